import PyProof.Rows.All
import Wide.All
import OpenK.AllK
import Wide.FinOn
import HandS.Property
import HandS.ClsMeth
import HandS.FStr
import HandS.FStrTup
import KE.KEqDict
import HandS.DictEq
import HandS.ForMost
import HandS.ForExc
import HandS.Walk
import HandS.Evl
import HandS.Style
import HandS.Flow
import HandS.IsInst
import HandS.More
import KE.GoesMore
import PyProof.ReprRoads
import HandS.RaiseMore
import HandS.Deep
import HandS.Ends
import HandS.EndBits
import HandS.Words
import HandS.WordsExc
import PyProof.StrOps2
import KE.KExcSuper
import HandS.ExcInit
import HandS.Small
import HandS.TryOnly
import HandS.TryMany
import HandS.ExcField
import KE.RegKTryMore
import HandS.SetFor
import HandS.TupMul
import HandS.HotCalls
import KE.KExcIs
import KE.KOpsOwn
import PyProof.ListMulRight
import PyProof.Rows.ListMulR
import HandS.Strs
import HandS.SortInts
import PyProof.Rows.SortShellAny
import HandS.Set
import HandS.SetKeys
import HandS.Dict
import PyProof.Rows.StrMeet
import PyProof.StrWalks
import PyProof.FactsAll.subtypes_3
import PyProof.Rows.StrRev
import PyProof.ListStr
import HandS.Defaults
import HandS.MakeKwOnly
import HandS.DictComp
import HandS.ForDict
import HandS.DictTup
import HandS.Flt
import HandS.Replace
import KE.KDictList
import PyProof.DictValues
import HandS.Finally
import KE.KEqNest
import HandS.SetBool
import HandS.TupSets
import KE.KSetDisp
import PySem.Challenge.RW_windowcuts_k26_whole_blocks_needed
set_option Elab.async false
set_option linter.all false
set_option autoImplicit false
set_option maxRecDepth 100000
set_option maxHeartbeats 1000000
namespace Wc
open PySem L2
/-- a value as a tree that never changes any more -/
inductive D where
  | non
  | bl (b : Bool)
  | int (i : Int)
  | str (s : List Nat)
  | tup (xs : List D)
  | lst (xs : List D)
  | dic (ks : List Key) (xs : List D)
  | obj (c : Nat) (ns : List Str) (xs : List D)
  | scr (ns : List Int)
  | exn (c : Nat) (ns : List Str) (xs : List D)
  | fnv (n : Nat)
/-- what a slot may hold: a tree, or a list / an object of its own that may still change -/
inductive W where
  | sh (d : D)
  | ml (xs : List D)
  | mo (c : Nat) (ns : List Str) (xs : List D)
  | md (ks : List Key) (xs : List D)
abbrev Env' := List (Option W)
inductive R (α : Type) where
  | ok (a : α) (e : Env')
  | exc (c : Nat) (ns : List Str) (ds : List D) (e : Env')
  | bad
def M (α : Type) := Env' → R α
def M.pure {α : Type} (a : α) : M α := fun e => .ok a e
def R.bind {α β : Type} : R α → (α → M β) → R β
  | .ok a e, k => k a e
  | .exc c ns ds e, _ => .exc c ns ds e
  | .bad, _ => .bad
def M.bind {α β : Type} (f : M α) (k : α → M β) : M β := fun e => (f e).bind k
instance : Monad M where
  pure := M.pure
  bind := M.bind
def stuck {α : Type} : M α := fun _ => .bad
def ofO {α : Type} : Option α → M α
  | some a => M.pure a
  | none => stuck
/-- the classes of the program by number -/
structure Cl where
  K : PySem.W.Frag
  ca : Nat → Addr
/-- a caught exception at a: its class, its own dict -/
def xob (a C : Addr) (d : Option Addr) : HO := .ext fun h => ∃ (oe : Obj) (vs : Array Value), h.get? a = some oe ∧ oe.cls = .ref C ∧ oe.dict = d ∧ oe.data = .fields vs
mutual
def Sh (T : Cl) (Z : Hp) : D → V → Prop
  | .non, v => v = .non
  | .bl b, v => v = .bl b
  | .int i, v => v = .int i
  | .str s, v => v = .str ⟨s.toArray⟩ ∧ s.length ≤ sizeLine
  | .tup ds, v => ∃ a vs, v = .ref a ∧ Z a = some (.tup vs) ∧ ds.length ≤ sizeLine ∧ ShL T Z ds vs
  | .lst ds, v => ∃ a vs, v = .ref a ∧ Z a = some (.lst vs) ∧ ds.length ≤ sizeLine ∧ ShL T Z ds vs
  | .dic ks ds, v => ∃ a kv, v = .ref a ∧ Rd Z a (.dK kv) ∧ kv.map (·.1) = ks ∧ ShL T Z ds (kv.map (·.2))
  | .obj c ns ds, v => ∃ a dx fv, v = .ref a ∧ Z a = some (.ins (T.ca c) dx fv) ∧ fv.map (·.1) = ns ∧ ShL T Z ds (fv.map (·.2))
  | .scr ns, v => ∃ a, v = .ref a ∧ SqL T.K Z a (ns.map V.int)
  | .exn c ns ds, v => ∃ a d, v = .ref a ∧ Z a = some (xob a (T.ca c) d) ∧ (ns = [] ∧ ds = [] ∧ d = none ∨ ∃ dd fv, d = some dd ∧ Z dd = some (.xd fv) ∧ fv.map (·.1) = ns ∧ ShL T Z ds (fv.map (·.2)))
  | .fnv n, v => v = .ref (T.ca n)
def ShL (T : Cl) (Z : Hp) : List D → List V → Prop
  | [], vs => vs = []
  | d :: ds, vs => ∃ v r, vs = v :: r ∧ Sh T Z d v ∧ ShL T Z ds r
end
abbrev Ex := Evl.Ex
theorem ex_sql {K : PySem.W.Frag} {Z Z' : Hp} {a : Addr} {vs : List V} (e : Ex Z Z') (h : SqL K Z a vs) : SqL K Z' a vs := Evl.ex_l e h
mutual
theorem Sh.mono {T : Cl} {Z Z' : Hp} (e : Ex Z Z') : ∀ (d : D) (v : V), Sh T Z d v → Sh T Z' d v
  | .non, _, h => h
  | .bl _, _, h => h
  | .int _, _, h => h
  | .str _, _, h => h
  | .tup ds, _, ⟨a, vs, h1, h2, hl, h3⟩ => ⟨a, vs, h1, e _ _ h2, hl, ShL.mono e ds vs h3⟩
  | .lst ds, _, ⟨a, vs, h1, h2, hl, h3⟩ => ⟨a, vs, h1, e _ _ h2, hl, ShL.mono e ds vs h3⟩
  | .dic _ ds, _, ⟨a, kv, h1, h2, h3, h4⟩ => ⟨a, kv, h1, Evl.ex_rd e h2, h3, ShL.mono e ds _ h4⟩
  | .obj _ _ ds, _, ⟨a, dx, fv, h1, h2, h3, h4⟩ => ⟨a, dx, fv, h1, e _ _ h2, h3, ShL.mono e ds _ h4⟩
  | .scr ns, _, ⟨a, h1, h2⟩ => ⟨a, h1, ex_sql e h2⟩
  | .exn _ _ ds, _, ⟨a, d, h1, h2, h3⟩ => ⟨a, d, h1, e _ _ h2, h3.imp id fun ⟨dd, fv, k1, k2, k3, k4⟩ => ⟨dd, fv, k1, e _ _ k2, k3, ShL.mono e ds _ k4⟩⟩
  | .fnv _, _, h => h
theorem ShL.mono {T : Cl} {Z Z' : Hp} (e : Ex Z Z') : ∀ (ds : List D) (vs : List V), ShL T Z ds vs → ShL T Z' ds vs
  | [], _, h => h
  | d :: ds, _, ⟨v, r, h1, h2, h3⟩ => ⟨v, r, h1, Sh.mono e d v h2, ShL.mono e ds r h3⟩
end
theorem ShL.length {T : Cl} {Z : Hp} : ∀ {ds : List D} {vs : List V}, ShL T Z ds vs → vs.length = ds.length
  | [], _, h => by rw [show _ = ([] : List V) from h]; rfl
  | d :: ds, _, ⟨v, r, h1, _, h3⟩ => by rw [h1, List.length_cons, List.length_cons, ShL.length h3]
theorem ShL.get {T : Cl} {Z : Hp} : ∀ {ds : List D} {vs : List V} {i : Nat} {d : D}, ShL T Z ds vs → ds[i]? = some d → ∃ v, vs[i]? = some v ∧ Sh T Z d v
  | [], _, _, _, _, e => by simp at e
  | d :: ds, _, 0, d', ⟨v, r, h1, h2, h3⟩, e => by
    simp at e; subst e; exact ⟨v, by rw [h1]; rfl, h2⟩
  | d :: ds, _, i + 1, d', ⟨v, r, h1, h2, h3⟩, e => by
    obtain ⟨u, e1, e2⟩ := ShL.get (i := i) (d := d') h3 (by simpa using e)
    exact ⟨u, by rw [h1]; simpa using e1, e2⟩
theorem ShL.getV {T : Cl} {Z : Hp} : ∀ {ds : List D} {vs : List V} {i : Nat} {v : V}, ShL T Z ds vs → vs[i]? = some v → ∃ d, ds[i]? = some d ∧ Sh T Z d v
  | [], _, _, _, h, e => by rw [show _ = ([] : List V) from h] at e; simp at e
  | d :: ds, _, 0, v', ⟨v, r, h1, h2, h3⟩, e => by
    rw [h1] at e; simp at e; subst e; exact ⟨d, rfl, h2⟩
  | d :: ds, _, i + 1, v', ⟨v, r, h1, h2, h3⟩, e => by
    rw [h1] at e
    obtain ⟨u, e1, e2⟩ := ShL.getV (i := i) (v := v') h3 (by simpa using e)
    exact ⟨u, by simpa using e1, e2⟩
theorem ShL.append {T : Cl} {Z : Hp} : ∀ {ds es : List D} {vs us : List V}, ShL T Z ds vs → ShL T Z es us → ShL T Z (ds ++ es) (vs ++ us)
  | [], _, _, _, h, k => by rw [show _ = ([] : List V) from h]; exact k
  | d :: ds, es, _, us, ⟨v, r, h1, h2, h3⟩, k => ⟨v, r ++ us, by rw [h1]; rfl, h2, ShL.append h3 k⟩
theorem ShL.one {T : Cl} {Z : Hp} {d : D} {v : V} (h : Sh T Z d v) : ShL T Z [d] [v] := ⟨v, [], rfl, h, rfl⟩
theorem ShL.take {T : Cl} {Z : Hp} : ∀ (n : Nat) {ds : List D} {vs : List V}, ShL T Z ds vs → ShL T Z (ds.take n) (vs.take n)
  | 0, _, _, _ => by simp [ShL]
  | n + 1, [], _, h => by rw [show _ = ([] : List V) from h]; simp [ShL]
  | n + 1, d :: ds, _, ⟨v, r, h1, h2, h3⟩ => by rw [h1]; exact ⟨v, r.take n, rfl, h2, ShL.take n h3⟩
theorem ShL.drop {T : Cl} {Z : Hp} : ∀ (n : Nat) {ds : List D} {vs : List V}, ShL T Z ds vs → ShL T Z (ds.drop n) (vs.drop n)
  | 0, _, _, h => h
  | n + 1, [], _, h => by rw [show _ = ([] : List V) from h]; simp [ShL]
  | n + 1, d :: ds, _, ⟨v, r, h1, h2, h3⟩ => by rw [h1]; exact ShL.drop n h3
theorem ShL.set {T : Cl} {Z : Hp} {d : D} {v : V} (h : Sh T Z d v) : ∀ {ds : List D} {vs : List V} (i : Nat), ShL T Z ds vs → ShL T Z (ds.set i d) (vs.set i v)
  | [], _, _, h => by rw [show _ = ([] : List V) from h]; simp [ShL]
  | _ :: ds, _, 0, ⟨u, r, h1, h2, h3⟩ => by rw [h1]; exact ⟨v, r, rfl, h, h3⟩
  | _ :: ds, _, i + 1, ⟨u, r, h1, h2, h3⟩ => by rw [h1]; exact ⟨u, _, rfl, h2, ShL.set h i h3⟩
def W.own : W → Bool
  | .sh _ => false
  | _ => true
def Rw (T : Cl) (Z H : Hp) : W → V → Prop
  | .sh d, v => Sh T Z d v
  | .ml ds, v => ∃ a vs, v = .ref a ∧ Z a = none ∧ H a = some (.lst vs) ∧ ds.length ≤ sizeLine ∧ ShL T Z ds vs
  | .mo c ns ds, v => ∃ a dx fv, v = .ref a ∧ Z a = none ∧ H a = some (.ins (T.ca c) dx fv) ∧ fv.map (·.1) = ns ∧ ShL T Z ds (fv.map (·.2))
  | .md ks ds, v => ∃ a kv, v = .ref a ∧ Z a = none ∧ H a = some (.dK kv) ∧ kv.map (·.1) = ks ∧ ShL T Z ds (kv.map (·.2))
def Owns (σ : St) (env : Env') (a : Addr) : Prop := ∃ (i : Nat) (w : W), env[i]? = some (some w) ∧ w.own = true ∧ σ[i]? = some (some (V.ref a))
structure REnv (T : Cl) (Z H : Hp) (σ : St) (env : Env') : Prop where
  ex : Ex Z H
  len : env.length = σ.length
  at_ : ∀ (i : Nat) (w : W), env[i]? = some (some w) → ∃ v, σ[i]? = some (some v) ∧ Rw T Z H w v
  sep : ∀ (i j : Nat) (w u : W) (a : Addr), i ≠ j → env[i]? = some (some w) → env[j]? = some (some u) → w.own = true → u.own = true → σ[i]? = some (some (V.ref a)) → σ[j]? = some (some (V.ref a)) → False
/-- from the heap H with the frozen part Z, owning O, to H', Z', O' -/
structure Adv (O : Addr → Prop) (Z H : Hp) (O' : Addr → Prop) (Z' H' : Hp) : Prop where
  zz : Ex Z Z'
  zh : Ex Z' H'
  fr : ∀ a o, H a = some o → ¬ O a → H' a = some o
  ow : ∀ a, O' a → O a ∨ H a = none
  nz : ∀ a o, Z' a = some o → Z a = some o ∨ O a ∨ H a = none
theorem Adv.refl {O : Addr → Prop} {Z H : Hp} (e : Ex Z H) : Adv O Z H O Z H :=
  ⟨Evl.Ex.refl Z, e, fun _ _ h _ => h, fun _ h => .inl h, fun _ _ h => .inl h⟩
theorem Adv.trans {O O1 O2 : Addr → Prop} {Z H Z1 H1 Z2 H2 : Hp} (a : Adv O Z H O1 Z1 H1) (b : Adv O1 Z1 H1 O2 Z2 H2) : Adv O Z H O2 Z2 H2 := by
  have back : ∀ x, H1 x = none → O x ∨ H x = none := fun x h => by
    cases e : H x with
    | none => exact .inr rfl
    | some o =>
      by_cases hx : O x
      · exact .inl hx
      · rw [a.fr x o e hx] at h; cases h
  refine ⟨a.zz.trans b.zz, b.zh, fun x o h hn => b.fr x o (a.fr x o h hn) fun h1 => ?_, fun x h => ?_, fun x o h => ?_⟩
  · rcases a.ow x h1 with z | z
    · exact hn z
    · rw [h] at z; cases z
  · rcases b.ow x h with z | z
    · exact a.ow x z
    · exact back x z
  · rcases b.nz x o h with z | z | z
    · exact a.nz x o z
    · exact .inr (a.ow x z)
    · exact .inr (back x z)
theorem Adv.weak {O O1 O2 : Addr → Prop} {Z H Z1 H1 : Hp} (a : Adv O Z H O1 Z1 H1) (h : ∀ x, O2 x → O1 x) : Adv O Z H O2 Z1 H1 :=
  ⟨a.zz, a.zh, a.fr, fun x hx => a.ow x (h x hx), a.nz⟩
theorem Adv.more {O O1 O2 : Addr → Prop} {Z H Z1 H1 : Hp} (a : Adv O Z H O1 Z1 H1) (h : ∀ x, O x → O2 x) : Adv O2 Z H O1 Z1 H1 :=
  ⟨a.zz, a.zh, fun x o e n => a.fr x o e fun z => n (h x z), fun x hx => (a.ow x hx).imp (h x) id, fun x o e => (a.nz x o e).imp id (Or.imp (h x) id)⟩
/-- a new object, frozen at once -/
theorem Adv.new {O : Addr → Prop} {Z H : Hp} {p : Addr} {o : HO} (e : Ex Z H) (hp : H p = none) : Adv O Z H O (upd Z p o) (upd H p o) := by
  have zp : Z p = none := Evl.fresh_back e hp
  refine ⟨Evl.Ex.new zp, fun a u h => ?_, fun a u h _ => ?_, fun _ h => .inl h, fun a u h => ?_⟩
  · by_cases hb : a = p
    · subst hb; rw [upd_same] at h ⊢; exact h
    · rw [upd_ne hb] at h ⊢; exact e a u h
  · rw [upd_ne (ne_of_none h hp)]; exact h
  · by_cases hb : a = p
    · subst hb; exact .inr (.inr hp)
    · rw [upd_ne hb] at h; exact .inl h
/-- a new object, owned -/
theorem Adv.newO {O : Addr → Prop} {Z H : Hp} {p : Addr} {o : HO} (e : Ex Z H) (hp : H p = none) : Adv O Z H (fun a => O a ∨ a = p) Z (upd H p o) := by
  have zp : Z p = none := Evl.fresh_back e hp
  refine ⟨Evl.Ex.refl Z, fun a u h => ?_, fun a u h _ => ?_, fun a h => ?_, fun a u h => .inl h⟩
  · rw [upd_ne (ne_of_none h zp)]; exact e a u h
  · rw [upd_ne (ne_of_none h hp)]; exact h
  · rcases h with h | h
    · exact .inl h
    · subst h; exact .inr hp
/-- an owned object written -/
theorem Adv.write {O : Addr → Prop} {Z H : Hp} {p : Addr} {o : HO} (e : Ex Z H) (ho : O p) (zp : Z p = none) : Adv O Z H O Z (upd H p o) := by
  refine ⟨Evl.Ex.refl Z, fun a u h => ?_, fun a u h hn => ?_, fun a h => .inl h, fun a u h => .inl h⟩
  · rw [upd_ne (ne_of_none h zp)]; exact e a u h
  · rw [upd_ne (fun z => hn (by rw [z]; exact ho))]; exact h
/-- an owned object frozen -/
theorem Adv.freeze {O : Addr → Prop} {Z H : Hp} {p : Addr} {o : HO} (e : Ex Z H) (ho : O p) (zp : Z p = none) (hp : H p = some o) : Adv O Z H O (upd Z p o) H := by
  refine ⟨Evl.Ex.new zp, fun a u h => ?_, fun a u h _ => h, fun a h => .inl h, fun a u h => ?_⟩
  · by_cases hb : a = p
    · subst hb; rw [upd_same] at h; cases h; exact hp
    · rw [upd_ne hb] at h; exact e a u h
  · by_cases hb : a = p
    · subst hb; exact .inr (.inl ho)
    · rw [upd_ne hb] at h; exact .inl h
/-- what a slot's value says, carried on -/
theorem Rw.adv {T : Cl} {O O' : Addr → Prop} {Z H Z' H' : Hp} (a : Adv O Z H O' Z' H') : ∀ {w : W} {v : V}, Rw T Z H w v → (w.own = true → ∀ p, v = .ref p → ¬ O p) → Rw T Z' H' w v
  | .sh d, v, h, _ => Sh.mono a.zz d v h
  | .ml ds, v, ⟨p, vs, e, zp, hp, hl, hs⟩, hn => by
    have np := hn rfl p e
    refine ⟨p, vs, e, ?_, a.fr p _ hp np, hl, ShL.mono a.zz ds vs hs⟩
    cases q : Z' p with
    | none => rfl
    | some o =>
      rcases a.nz p o q with z | z | z
      · rw [zp] at z; cases z
      · exact absurd z np
      · rw [hp] at z; cases z
  | .mo c ns ds, v, ⟨p, dx, fv, e, zp, hp, hm, hs⟩, hn => by
    have np := hn rfl p e
    refine ⟨p, dx, fv, e, ?_, a.fr p _ hp np, hm, ShL.mono a.zz ds _ hs⟩
    cases q : Z' p with
    | none => rfl
    | some o =>
      rcases a.nz p o q with z | z | z
      · rw [zp] at z; cases z
      · exact absurd z np
      · rw [hp] at z; cases z
  | .md ks ds, v, ⟨p, kv, e, zp, hp, hm, hs⟩, hn => by
    have np := hn rfl p e
    refine ⟨p, kv, e, ?_, a.fr p _ hp np, hm, ShL.mono a.zz ds _ hs⟩
    cases q : Z' p with
    | none => rfl
    | some o =>
      rcases a.nz p o q with z | z | z
      · rw [zp] at z; cases z
      · exact absurd z np
      · rw [hp] at z; cases z
theorem Rw.there {T : Cl} {Z H : Hp} : ∀ {w : W} {p : Addr}, w.own = true → Rw T Z H w (.ref p) → Z p = none ∧ ∃ o, H p = some o
  | .sh _, _, h, _ => by simp [W.own] at h
  | .ml ds, p, _, ⟨q, vs, e, zp, hp, hl, hs⟩ => by cases e; exact ⟨zp, _, hp⟩
  | .mo c ns ds, p, _, ⟨q, dx, fv, e, zp, hp, hm, hs⟩ => by cases e; exact ⟨zp, _, hp⟩
  | .md ks ds, p, _, ⟨q, kv, e, zp, hp, hm, hs⟩ => by cases e; exact ⟨zp, _, hp⟩
section
variable {T : Cl} {Z H Z' H' : Hp} {σ : St} {env : Env'}
theorem REnv.ownZ (r : REnv T Z H σ env) {a : Addr} (h : Owns σ env a) : Z a = none ∧ ∃ o, H a = some o := by
  obtain ⟨i, w, h1, h2, h3⟩ := h
  obtain ⟨v, h4, h5⟩ := r.at_ i w h1
  rw [h3] at h4; cases h4
  exact h5.there h2
/-- a step that owns nothing of the slots -/
theorem REnv.step {O O' : Addr → Prop} (r : REnv T Z H σ env) (a : Adv O Z H O' Z' H') (hn : ∀ p, Owns σ env p → ¬ O p) : REnv T Z' H' σ env := by
  refine ⟨a.zh, r.len, fun i w h => ?_, r.sep⟩
  obtain ⟨v, h1, h2⟩ := r.at_ i w h
  exact ⟨v, h1, h2.adv a fun ow p e => hn p ⟨i, w, h, ow, by rw [h1, e]⟩⟩
theorem REnv.new {p : Addr} {o : HO} (r : REnv T Z H σ env) (hp : H p = none) : REnv T (upd Z p o) (upd H p o) σ env :=
  r.step (O := fun _ => False) (O' := fun _ => False) (Adv.new r.ex hp) fun _ _ h => h
theorem REnv.newO {p : Addr} {o : HO} (r : REnv T Z H σ env) (hp : H p = none) : REnv T Z (upd H p o) σ env :=
  r.step (O := fun _ => False) (O' := fun a => False ∨ a = p) (Adv.newO r.ex hp) fun _ _ h => h
theorem Owns.fresh (r : REnv T Z H σ env) {p : Addr} (hp : H p = none) : ¬ Owns σ env p := fun h => by
  obtain ⟨_, o, e⟩ := r.ownZ h
  rw [hp] at e; cases e
end
/-- how a result of type β (a value, values, a truth) stands for α -/
structure Kind (α β : Type) where
  rel : Cl → Hp → Hp → β → α → Prop
  ext : β → α → Addr → Prop
def KD : Kind D V := ⟨fun T Z _ v d => Sh T Z d v, fun _ _ _ => False⟩
def KW : Kind W V := ⟨fun T Z H v w => Rw T Z H w v, fun v w a => w.own = true ∧ v = .ref a⟩
def KL : Kind (List D) (List V) := ⟨fun T Z _ vs ds => ShL T Z ds vs, fun _ _ _ => False⟩
def KB : Kind Bool Bool := ⟨fun _ _ _ b c => b = c, fun _ _ _ => False⟩
/-- an exception in flight: its class and its own dict -/
def Xat (T : Cl) (Z H : Hp) (c : Nat) (ns : List Str) (ds : List D) (cls : Value) (d : Option Addr) : Prop :=
  cls = .ref (T.ca c) ∧ (ns = [] ∧ ds = [] ∧ d = none ∨ ∃ dd fv, d = some dd ∧ Z dd = some (.xd fv) ∧ fv.map (·.1) = ns ∧ ShL T Z ds (fv.map (·.2)))
def Post {α β : Type} (T : Cl) (Wx : WX) (κ : Kind α β) (σ : St) (O : Addr → Prop) (Z H : Hp) (r : R α) (Q : β → Hp → Prop) : Prop :=
  match r with
  | .ok d env' => ∀ Z' H' v, Adv O Z H (fun a => Owns σ env' a ∨ κ.ext v d a) Z' H' → REnv T Z' H' σ env' → κ.rel T Z' H' v d → (∀ a, κ.ext v d a → ¬ Owns σ env' a) → Q v H'
  | .exc c ns ds env' => ∀ Z' H' cls dd, Adv O Z H (Owns σ env') Z' H' → REnv T Z' H' σ env' → Xat T Z' H' c ns ds cls dd → Wx cls dd σ H'
  | .bad => False
/-- the reading «it computes f» -/
def TF {α β : Type} (T : Cl) (Wx : WX) (κ : Kind α β) (f : M α) : St → Hp → (β → Hp → Prop) → Prop := fun σ H Q =>
  ∃ Z env, REnv T Z H σ env ∧ Post T Wx κ σ (Owns σ env) Z H (f env) Q
section
variable {α β γ δ : Type} {T : Cl} {Wx : WX} {κ : Kind α β} {κ2 : Kind γ δ} {σ : St} {O O' : Addr → Prop} {Z H Z' H' : Hp}
/-- a later start -/
theorem Post.later {r : R α} {Q : β → Hp → Prop} (a : Adv O Z H O' Z' H') (h : Post T Wx κ σ O Z H r Q) : Post T Wx κ σ O' Z' H' r Q := by
  cases r with
  | ok d env' => exact fun Z2 H2 v b r k x => h Z2 H2 v (a.trans b) r k x
  | exc c ns ds env' => exact fun Z2 H2 cls dd b r k => h Z2 H2 cls dd (a.trans b) r k
  | bad => exact h
/-- f, then g: what is left for g -/
theorem TF.bind {f : M α} {g : α → M γ} {Q : δ → Hp → Prop} {Q1 : β → Hp → Prop} (h : TF T Wx κ2 (f >>= g) σ H Q)
    (k : ∀ Z1 H1 v d env1, REnv T Z1 H1 σ env1 → κ.rel T Z1 H1 v d → (∀ a, κ.ext v d a → ¬ Owns σ env1 a) → Post T Wx κ2 σ (fun a => Owns σ env1 a ∨ κ.ext v d a) Z1 H1 (g d env1) Q → Q1 v H1) : TF T Wx κ f σ H Q1 := by
  obtain ⟨Z, env, r, p⟩ := h
  refine ⟨Z, env, r, ?_⟩
  have p : Post T Wx κ2 σ (Owns σ env) Z H ((f env).bind g) Q := p
  cases e : f env with
  | ok d env1 =>
    rw [e] at p
    exact fun Z1 H1 v a r1 q x => k Z1 H1 v d env1 r1 q x (p.later a)
  | exc c ns ds env1 =>
    rw [e] at p
    exact fun Z1 H1 cls dd a r1 q => p Z1 H1 cls dd a r1 q
  | bad =>
    rw [e] at p
    exact p
theorem TF.mono {f : M α} {Q Q1 : β → Hp → Prop} (h : TF T Wx κ f σ H Q) (k : ∀ v H1, Q v H1 → Q1 v H1) : TF T Wx κ f σ H Q1 := by
  obtain ⟨Z, env, r, p⟩ := h
  refine ⟨Z, env, r, ?_⟩
  cases e : f env with
  | ok d env1 => rw [e] at p; exact fun Z1 H1 v a r1 q x => k v H1 (p Z1 H1 v a r1 q x)
  | exc c ns ds env1 => rw [e] at p; exact p
  | bad => rw [e] at p; exact p
end
theorem peImp {X : Cx} {e : Expr} {t t' : TE} (h : PE X e t) (k : ∀ σ H Q, t' σ H Q → t σ H Q) : PE X e t' := ⟨fun pins s σ H Q I q => h.run pins s σ H Q I (k σ H Q q)⟩
theorem ptImp {X : Cx} {e : Expr} {t t' : TT} (h : PT X e t) (k : ∀ σ H Q, t' σ H Q → t σ H Q) : PT X e t' := ⟨fun pins s σ H Q I q => h.run pins s σ H Q I (k σ H Q q)⟩
theorem psImp {X : Cx} {st : Stmt} {t t' : TS} (h : PS X st t) (k : ∀ D σ H, t' D σ H → t D σ H) : PS X st t' := ⟨fun pins s σ H D I q => h.run pins s σ H D I (k D σ H q)⟩
theorem pssImp {X : Cx} {st : List Stmt} {t t' : TS} (h : PSs X st t) (k : ∀ D σ H, t' D σ H → t D σ H) : PSs X st t' := ⟨fun pins s σ H D I q => h.run pins s σ H D I (k D σ H q)⟩
theorem piImp {X : Cx} {tg it : Expr} {t t' : TI} (h : PI X tg it t) (k : ∀ σ H Q, t' σ H Q → t σ H Q) : PI X tg it t' := ⟨fun pins s σ H R I q => h.run pins s σ H R I (k σ H R q)⟩
end Wc
namespace Wc
open PySem L2
def W.view : W → D
  | .sh d => d
  | .ml xs => .lst xs
  | .mo c ns xs => .obj c ns xs
  | .md ks xs => .dic ks xs
def Vw (T : Cl) (Z H : Hp) : D → V → Prop
  | .lst ds, v => ∃ a vs, v = .ref a ∧ H a = some (.lst vs) ∧ ds.length ≤ sizeLine ∧ ShL T Z ds vs
  | .obj c ns ds, v => ∃ a dx fv, v = .ref a ∧ H a = some (.ins (T.ca c) dx fv) ∧ fv.map (·.1) = ns ∧ ShL T Z ds (fv.map (·.2))
  | .dic ks ds, v => ∃ a kv, v = .ref a ∧ Rd H a (.dK kv) ∧ kv.map (·.1) = ks ∧ ShL T Z ds (kv.map (·.2))
  | d, v => Sh T Z d v
theorem Sh.vw {T : Cl} {Z H : Hp} (e : Ex Z H) : ∀ {d : D} {v : V}, Sh T Z d v → Vw T Z H d v
  | .non, _, h => h
  | .bl _, _, h => h
  | .int _, _, h => h
  | .str _, _, h => h
  | .tup ds, _, h => h
  | .lst ds, _, ⟨a, vs, h1, h2, h3⟩ => ⟨a, vs, h1, e _ _ h2, h3⟩
  | .dic _ ds, _, ⟨a, kv, h1, h2, h3⟩ => ⟨a, kv, h1, Evl.ex_rd e h2, h3⟩
  | .obj _ _ ds, _, ⟨a, dx, fv, h1, h2, h3⟩ => ⟨a, dx, fv, h1, e _ _ h2, h3⟩
  | .scr ns, _, h => h
  | .exn _ _ _, _, h => h
  | .fnv _, _, h => h
theorem Rw.vw {T : Cl} {Z H : Hp} (e : Ex Z H) : ∀ {w : W} {v : V}, Rw T Z H w v → Vw T Z H w.view v
  | .sh d, _, h => Sh.vw e h
  | .ml ds, _, ⟨a, vs, h1, _, h2, h3⟩ => ⟨a, vs, h1, h2, h3⟩
  | .mo c ns ds, _, ⟨a, dx, fv, h1, _, h2, h3⟩ => ⟨a, dx, fv, h1, h2, h3⟩
  | .md ks ds, _, ⟨a, kv, h1, _, h2, h3⟩ => ⟨a, kv, h1, .inl h2, h3⟩
def KV : Kind D V := ⟨fun T Z H v d => Vw T Z H d v, fun _ _ _ => False⟩
def Now (T : Cl) (σ : St) (env : Env') (Z H : Hp) (w : W) (Q : VK) : Prop :=
  ∀ Z' H' v, Adv (Owns σ env) Z H (fun a => Owns σ env a ∨ KW.ext v w a) Z' H' → REnv T Z' H' σ env → Rw T Z' H' w v → (∀ a, KW.ext v w a → ¬ Owns σ env a) → Q v H'
structure Fin {α : Type} (κ : Kind α V) (inj : W → α) : Prop where
  now : ∀ {T : Cl} {Wx : WX} {σ : St} {O : Addr → Prop} {Z H : Hp} {w : W} {env : Env'} {Q : VK}, Post T Wx κ σ O Z H (.ok (inj w) env) Q → (∀ a, Owns σ env a → O a) → Now T σ env Z H w Q
theorem finW : Fin KW id := ⟨fun h hO Z' H' v a r k x => h Z' H' v (a.more hO) r k x⟩
theorem sh_freeze {T : Cl} {Z H : Hp} : ∀ {w : W} {p : Addr}, w.own = true → Rw T Z H w (.ref p) → ∃ o, H p = some o ∧ Z p = none ∧ Sh T (upd Z p o) w.view (.ref p)
  | .sh _, _, h, _ => by simp [W.own] at h
  | .ml ds, p, _, ⟨a, vs, e, z, hp, hl, hs⟩ => by
    cases e
    exact ⟨_, hp, z, _, vs, rfl, upd_same, hl, ShL.mono (Evl.Ex.new z) ds vs hs⟩
  | .mo c ns ds, p, _, ⟨a, dx, fv, e, z, hp, hm, hs⟩ => by
    cases e
    exact ⟨_, hp, z, _, dx, fv, rfl, upd_same, hm, ShL.mono (Evl.Ex.new z) ds _ hs⟩
  | .md ks ds, p, _, ⟨a, kv, e, z, hp, hm, hs⟩ => by
    cases e
    exact ⟨_, hp, z, _, kv, rfl, .inl upd_same, hm, ShL.mono (Evl.Ex.new z) ds _ hs⟩
theorem Rw.isRef {T : Cl} {Z H : Hp} : ∀ {w : W} {v : V}, w.own = true → Rw T Z H w v → ∃ p, v = .ref p
  | .sh _, _, h, _ => by simp [W.own] at h
  | .ml ds, _, _, ⟨a, vs, e, _⟩ => ⟨a, e⟩
  | .mo c ns ds, _, _, ⟨a, dx, fv, e, _⟩ => ⟨a, e⟩
  | .md ks ds, _, _, ⟨a, kv, e, _⟩ => ⟨a, e⟩
theorem finD : Fin KD W.view := ⟨fun {T Wx σ O Z H w env Q} h hO Z' H' v a r k x => by
  cases hw : w.own with
  | false =>
    cases w with
    | sh d => exact h Z' H' v ((a.more hO).weak fun y hy => hy.imp id fun z => z.elim) r k fun _ z => z.elim
    | ml _ => simp [W.own] at hw
    | mo _ _ _ => simp [W.own] at hw
    | md _ _ => simp [W.own] at hw
  | true =>
    obtain ⟨p, rfl⟩ := k.isRef hw
    obtain ⟨o, hp, zp, hs⟩ := sh_freeze hw k
    have b : Adv (fun y => Owns σ env y ∨ KW.ext (.ref p) w y) Z' H' (fun y => Owns σ env y ∨ False) (upd Z' p o) H' :=
      (Adv.freeze r.ex (.inr ⟨hw, rfl⟩) zp hp).weak fun y hy => hy.imp id fun z => z.elim
    refine h _ H' _ ((a.trans b).more hO) ?_ hs fun _ z => z.elim
    refine r.step (O := fun y => y = p) (O' := fun y => y = p) (Adv.freeze r.ex rfl zp hp) fun y hy e => ?_
    rw [e] at hy
    exact x p ⟨hw, rfl⟩ hy⟩
section
variable {T : Cl} {σ : St} {env : Env'} {Z H : Hp} {Q : VK}
theorem Now.sc {d : D} {v : V} (h : Now T σ env Z H (.sh d) Q) (r : REnv T Z H σ env) (s : Sh T Z d v) : Q v H :=
  h Z H v ((Adv.refl (O := Owns σ env) r.ex).weak fun y hy => hy.elim id fun z => by simp [KW, W.own] at z) r s fun a z => by simp [KW, W.own] at z
theorem Now.ml {ds : List D} {vs : List V} {p : Addr} (h : Now T σ env Z H (.ml ds) Q) (r : REnv T Z H σ env) (s : ShL T Z ds vs) (hl : ds.length ≤ sizeLine) (hp : H p = none) : Q (.ref p) (upd H p (.lst vs)) :=
  h Z _ (.ref p) ((Adv.newO r.ex hp).weak fun y hy => hy.imp id fun z => by have := z.2; cases this; rfl) (r.newO hp) ⟨p, vs, rfl, Evl.fresh_back r.ex hp, upd_same, hl, s⟩ fun a z => by
    have e := z.2
    cases e
    exact Owns.fresh r hp
theorem Now.tup {ds : List D} {vs : List V} {p : Addr} (h : Now T σ env Z H (.sh (.tup ds)) Q) (r : REnv T Z H σ env) (s : ShL T Z ds vs) (hl : ds.length ≤ sizeLine) (hp : H p = none) : Q (.ref p) (upd H p (.tup vs)) :=
  h (upd Z p (.tup vs)) _ (.ref p) ((Adv.new r.ex hp).weak fun y hy => hy.elim id fun z => by simp [KW, W.own] at z) (r.new hp) ⟨p, vs, rfl, upd_same, hl, ShL.mono (Evl.Ex.new (Evl.fresh_back r.ex hp)) ds vs s⟩ fun a z => by simp [KW, W.own] at z
theorem Now.same {w : W} {v : V} (h : Now T σ env Z H w Q) (r : REnv T Z H σ env) (s : Rw T Z H w v) (hn : w.own = false) : Q v H :=
  h Z H v ((Adv.refl (O := Owns σ env) r.ex).weak fun y hy => hy.elim id fun z => by have := z.1; rw [hn] at this; cases this) r s fun a z => by have := z.1; rw [hn] at this; cases this
end
def nm (i : Nat) : M D := fun e => match e[i]? with
  | some (some w) => .ok w.view (e.set i (some (.sh w.view)))
  | _ => .bad
/-- only looked at -/
def pk (i : Nat) : M D := fun e => match e[i]? with
  | some (some w) => .ok w.view e
  | _ => .bad
/-- handed over: the slot is given up -/
def mv (i : Nat) : M W := fun e => match e[i]? with
  | some (some w) => .ok w (e.set i none)
  | _ => .bad
section
variable {X : Cx} {T : Cl} {Wx : WX} {e : Expr} {i : Nat}
theorem Owns.set_sub {σ : St} {env : Env'} {i : Nat} {w : Option W} {a : Addr} (h : Owns σ (env.set i w) a) : Owns σ env a ∨ (∃ u, w = some u ∧ u.own = true ∧ σ[i]? = some (some (.ref a))) := by
  obtain ⟨j, u, h1, h2, h3⟩ := h
  by_cases hj : i = j
  · subst hj
    rw [List.getElem?_set] at h1
    simp at h1
    exact .inr ⟨u, h1.2, h2, h3⟩
  · rw [List.getElem?_set_ne hj] at h1
    exact .inl ⟨j, u, h1, h2, h3⟩
/-- a slot of the same value with another state -/
theorem REnv.put {Z H Z' H' : Hp} {σ : St} {env : Env'} {w : W} {w' : Option W} {v : V} {O' : Addr → Prop} (r : REnv T Z H σ env) (h : env[i]? = some (some w)) (hv : σ[i]? = some (some v))
    (adv : Adv (fun p => v = .ref p ∧ w.own = true) Z H O' Z' H') (hw : ∀ u, w' = some u → Rw T Z' H' u v ∧ (u.own = true → w.own = true)) : REnv T Z' H' σ (env.set i w') := by
  refine ⟨adv.zh, by rw [List.length_set]; exact r.len, fun j u hj => ?_, fun j k u u' a ne h1 h2 o1 o2 s1 s2 => ?_⟩
  · by_cases e : i = j
    · subst e
      rw [List.getElem?_set] at hj
      simp at hj
      exact ⟨v, hv, (hw u hj.2).1⟩
    · rw [List.getElem?_set_ne e] at hj
      obtain ⟨x, h1, h2⟩ := r.at_ j u hj
      refine ⟨x, h1, h2.adv adv fun ow p ex q => ?_⟩
      exact r.sep i j w u p e h hj q.2 ow (by rw [hv, q.1]) (by rw [h1, ex])
  · by_cases e : i = j
    · subst e
      rw [List.getElem?_set] at h1
      simp at h1
      rw [List.getElem?_set_ne ne] at h2
      exact r.sep i k w u' a ne h h2 ((hw u h1.2).2 o1) o2 s1 s2
    · rw [List.getElem?_set_ne e] at h1
      by_cases e2 : i = k
      · subst e2
        rw [List.getElem?_set] at h2
        simp at h2
        exact r.sep j i u w a ne h1 h o1 ((hw u' h2.2).2 o2) s1 s2
      · rw [List.getElem?_set_ne e2] at h2
        exact r.sep j k u u' a ne h1 h2 o1 o2 s1 s2
theorem pd_nm (h : PE X e (tVar i)) : PE X e (TF T Wx KD (nm i)) := peImp h fun σ H Q ⟨Z, env, r, p⟩ => by
  unfold nm at p
  cases q : env[i]? with
  | none => rw [q] at p; exact p.elim
  | some ow =>
    cases ow with
    | none => rw [q] at p; exact p.elim
    | some w =>
      rw [q] at p
      obtain ⟨v, hv, hw⟩ := r.at_ i w q
      refine ⟨v, hv, ?_⟩
      cases ho : w.own with
      | false =>
        cases w with
        | sh d =>
          refine p Z H v ((Adv.refl (O := Owns σ env) r.ex).weak fun y hy => hy.elim (fun z => ?_) fun z => z.elim) ?_ hw fun _ z => z.elim
          · rcases z.set_sub with z | ⟨u, e1, e2, _⟩
            · exact z
            · cases e1; simp [W.own] at e2
          · exact r.put q hv (Adv.refl (O := fun p => v = .ref p ∧ W.own (.sh d) = true) r.ex) fun u e1 => by cases e1; exact ⟨hw, id⟩
        | ml _ => simp [W.own] at ho
        | mo _ _ _ => simp [W.own] at ho
        | md _ _ => simp [W.own] at ho
      | true =>
        obtain ⟨a, rfl⟩ := hw.isRef ho
        obtain ⟨o, ha, za, hs⟩ := sh_freeze ho hw
        refine p (upd Z a o) H (.ref a) ((Adv.freeze (O := Owns σ env) r.ex ⟨i, w, q, ho, hv⟩ za ha).weak fun y hy => hy.elim (fun z => ?_) fun z => z.elim) ?_ hs fun _ z => z.elim
        · rcases z.set_sub with z | ⟨u, e1, e2, _⟩
          · exact z
          · cases e1; simp [W.own] at e2
        · exact r.put q hv (Adv.freeze (O := fun p => V.ref a = .ref p ∧ w.own = true) r.ex ⟨rfl, ho⟩ za ha) fun u e1 => by cases e1; exact ⟨hs, fun z => by simp [W.own] at z⟩
theorem pd_pk (h : PE X e (tVar i)) : PE X e (TF T Wx KV (pk i)) := peImp h fun σ H Q ⟨Z, env, r, p⟩ => by
  unfold pk at p
  cases q : env[i]? with
  | none => rw [q] at p; exact p.elim
  | some ow =>
    cases ow with
    | none => rw [q] at p; exact p.elim
    | some w =>
      rw [q] at p
      obtain ⟨v, hv, hw⟩ := r.at_ i w q
      exact ⟨v, hv, p Z H v ((Adv.refl (O := Owns σ env) r.ex).weak fun y hy => hy.elim id fun z => z.elim) r (hw.vw r.ex) fun _ z => z.elim⟩
theorem pd_mv (h : PE X e (tVar i)) : PE X e (TF T Wx KW (mv i)) := peImp h fun σ H Q ⟨Z, env, r, p⟩ => by
  unfold mv at p
  cases q : env[i]? with
  | none => rw [q] at p; exact p.elim
  | some ow =>
    cases ow with
    | none => rw [q] at p; exact p.elim
    | some w =>
      rw [q] at p
      obtain ⟨v, hv, hw⟩ := r.at_ i w q
      refine ⟨v, hv, p Z H v ((Adv.refl (O := Owns σ env) r.ex).weak fun y hy => ?_) ?_ hw fun a z n => ?_⟩
      · rcases hy with z | z
        · rcases z.set_sub with z | ⟨u, e1, _⟩
          · exact z
          · cases e1
        · exact ⟨i, w, q, z.1, by rw [hv, z.2]⟩
      · exact r.put q hv (Adv.refl (O := fun p => v = .ref p ∧ w.own = true) r.ex) fun u e1 => by cases e1
      · obtain ⟨j, u, h1, h2, h3⟩ := n
        have hj : i ≠ j := fun e => by
          subst e
          rw [List.getElem?_set] at h1
          simp at h1
        rw [List.getElem?_set_ne hj] at h1
        exact r.sep i j w u a hj q h1 z.1 h2 (by rw [hv, z.2]) h3
/-- a value that hangs on nothing -/
def kc (d : D) : M D := M.pure d
theorem pd_c {v : V} {d : D} (h : PE X e (tC v)) (s : ∀ Z, Sh T Z d v) : PE X e (TF T Wx KD (kc d)) := peImp h fun σ H Q ⟨Z, env, r, p⟩ =>
  p Z H v ((Adv.refl (O := Owns σ env) r.ex).weak fun y hy => hy.elim id fun z => z.elim) r (s Z) fun _ z => z.elim
theorem pd_v {f : M D} (h : PE X e (TF T Wx KD f)) : PE X e (TF T Wx KV f) := peImp h fun σ H Q ⟨Z, env, r, p⟩ => by
  refine ⟨Z, env, r, ?_⟩
  cases q : f env with
  | ok d env' => rw [q] at p; exact fun Z' H' v a r' s x => p Z' H' v a r' (Sh.vw r'.ex s) x
  | exc c ns ds env' => rw [q] at p; exact p
  | bad => rw [q] at p; exact p
/-- a tree as a slot's value -/
def lf (f : M D) : M W := f >>= fun d => M.pure (.sh d)
theorem pd_lf {f : M D} (h : PE X e (TF T Wx KD f)) : PE X e (TF T Wx KW (lf f)) := peImp h fun σ H Q q =>
  TF.bind q fun Z1 H1 v d env1 r s _ p => p Z1 H1 v ((Adv.refl (O := fun a => Owns σ env1 a ∨ KD.ext v d a) r.ex).weak fun y hy => .inl (hy.elim id fun z => by simp [KW, W.own] at z)) r s fun a z => by simp [KW, W.own] at z
def fz (f : M W) : M D := f >>= fun w => M.pure w.view
theorem pd_fz {f : M W} (h : PE X e (TF T Wx KW f)) : PE X e (TF T Wx KD (fz f)) := peImp h fun σ H Q q =>
  TF.bind q fun Z1 H1 v w env1 r s x p => by
    cases hw : w.own with
    | false =>
      cases w with
      | sh d => exact p Z1 H1 v ((Adv.refl (O := fun a => Owns σ env1 a ∨ KW.ext v (.sh d) a) r.ex).weak fun y hy => .inl (hy.elim id fun z => z.elim)) r s fun _ z => z.elim
      | ml _ => simp [W.own] at hw
      | mo _ _ _ => simp [W.own] at hw
      | md _ _ => simp [W.own] at hw
    | true =>
      obtain ⟨a, rfl⟩ := s.isRef hw
      obtain ⟨o, ha, za, hs⟩ := sh_freeze hw s
      refine p (upd Z1 a o) H1 (.ref a) ((Adv.freeze (O := fun y => Owns σ env1 y ∨ KW.ext (.ref a) w y) r.ex (.inr ⟨hw, rfl⟩) za ha).weak fun y hy => .inl (hy.elim id fun z => z.elim)) ?_ hs fun _ z => z.elim
      refine r.step (O := fun y => y = a) (O' := fun y => y = a) (Adv.freeze r.ex rfl za ha) fun y hy e => ?_
      rw [e] at hy
      exact x a ⟨hw, rfl⟩ hy
end
def S1 (T : Cl) (r : V → Hp → VK → Prop) (op : D → Option W) : Prop := ∀ (Z H : Hp) (σ : St) (env : Env') (v : V) (d : D) (w : W) (Q : VK), REnv T Z H σ env → Vw T Z H d v → op d = some w → Now T σ env Z H w Q → r v H Q
def S2 (T : Cl) (r : R2) (op : D → D → Option W) : Prop := ∀ (Z H : Hp) (σ : St) (env : Env') (v u : V) (d e : D) (w : W) (Q : VK), REnv T Z H σ env → Vw T Z H d v → Vw T Z H e u → op d e = some w → Now T σ env Z H w Q → r v u H Q
theorem Post.ofO {T : Cl} {Wx : WX} {α : Type} {κ : Kind α V} {inj : W → α} (F : Fin κ inj) {σ : St} {O : Addr → Prop} {Z H : Hp} {env : Env'} {o : Option W} {Q : VK} (h : Post T Wx κ σ O Z H (ofO (o.map inj) env) Q) (hO : ∀ a, Owns σ env a → O a) : ∃ w, o = some w ∧ Now T σ env Z H w Q := by
  cases o with
  | none => exact h.elim
  | some w => exact ⟨w, rfl, F.now h hO⟩
section
variable {X : Cx} {T : Cl} {Wx : WX} {α : Type} {κ : Kind α V} {inj : W → α} {a b e : Expr} {f g : M D} {pos : Pos} {i : Nat}
/-- one operand -/
def m1 (inj : W → α) (op : D → Option W) (f : M D) : M α := f >>= fun x => ofO ((op x).map inj)
def m2 (inj : W → α) (op : D → D → Option W) (f g : M D) : M α := f >>= fun x => g >>= fun y => ofO ((op x y).map inj)
/-- the first operand a name -/
def m2n (inj : W → α) (op : D → D → Option W) (i : Nat) (g : M D) : M α := pk i >>= fun _ => g >>= fun y => pk i >>= fun x => ofO ((op x y).map inj)
theorem tf1 {r : V → Hp → VK → Prop} {op : D → Option W} (F : Fin κ inj) (S : S1 T r op) {σ : St} {H : Hp} {Q : VK} (q : TF T Wx κ (m1 inj op f) σ H Q) : TF T Wx KV f σ H fun x H1 => r x H1 Q :=
  TF.bind q fun Z1 H1 v d env1 r s _ p => by
    obtain ⟨w, e, n⟩ := Post.ofO F p fun _ h => .inl h
    exact S Z1 H1 σ env1 v d w Q r s e n
theorem tf2 {r : R2} {op : D → D → Option W} (F : Fin κ inj) (S : S2 T r op) {σ : St} {H : Hp} {Q : VK} (q : TF T Wx κ (m2 inj op f g) σ H Q) : TF T Wx KD f σ H fun x H1 => TF T Wx KV g σ H1 fun y H2 => r x y H2 Q :=
  TF.bind q fun Z1 H1 v d env1 r1 s1 _ p => by
    have q2 : TF T Wx κ (g >>= fun y => ofO ((op d y).map inj)) σ H1 Q := ⟨Z1, env1, r1, p.later ((Adv.refl (O := fun a => Owns σ env1 a ∨ KD.ext v d a) r1.ex).weak fun y hy => .inl hy)⟩
    obtain ⟨Z1', env1', r1', p'⟩ := id q2
    refine ⟨Z1, env1, r1, ?_⟩
    have p := p.later ((Adv.refl (O := fun a => Owns σ env1 a ∨ KD.ext v d a) r1.ex).weak (O2 := Owns σ env1) fun y hy => .inl hy)
    have p : Post T Wx κ σ (Owns σ env1) Z1 H1 ((g env1).bind fun y => ofO ((op d y).map inj)) Q := p
    cases eg : g env1 with
    | ok e env2 =>
      rw [eg] at p
      intro Z2 H2 u adv r2 s2 x2
      obtain ⟨w, ew, n⟩ := Post.ofO F (p.later adv) fun _ h => .inl h
      exact S Z2 H2 σ env2 v u d e w Q r2 (Sh.vw r2.ex (Sh.mono adv.zz d v s1)) s2 ew n
    | exc c ns ds env2 => rw [eg] at p; exact p
    | bad => rw [eg] at p; exact p
theorem tf2n {r : R2} {op : D → D → Option W} (F : Fin κ inj) (S : S2 T r op) {σ : St} {H : Hp} {Q : VK} (q : TF T Wx κ (m2n inj op i g) σ H Q) : tVar i σ H fun x H1 => TF T Wx KV g σ H1 fun y H2 => r x y H2 Q := by
  obtain ⟨Z, env, r0, p⟩ := q
  have p : Post T Wx κ σ (Owns σ env) Z H (((pk i) env).bind fun _ => g >>= fun y => pk i >>= fun x => ofO ((op x y).map inj)) Q := p
  cases q : env[i]? with
  | none => simp only [pk, q, R.bind] at p; exact p.elim
  | some ow =>
    cases ow with
    | none => simp only [pk, q, R.bind] at p; exact p.elim
    | some w0 =>
      simp only [pk, q, R.bind] at p
      obtain ⟨v, hv, hw⟩ := r0.at_ i w0 q
      refine ⟨v, hv, Z, env, r0, ?_⟩
      have p : Post T Wx κ σ (Owns σ env) Z H ((g env).bind fun y => pk i >>= fun x => ofO ((op x y).map inj)) Q := p
      cases eg : g env with
      | ok e env2 =>
        rw [eg] at p
        intro Z2 H2 u adv r2 s2 x2
        have p := p.later adv
        have p : Post T Wx κ σ (fun y => Owns σ env2 y ∨ KV.ext u e y) Z2 H2 ((pk i env2).bind fun x => ofO ((op x e).map inj)) Q := p
        cases q2 : env2[i]? with
        | none => simp only [pk, q2, R.bind] at p; exact p.elim
        | some ow2 =>
          cases ow2 with
          | none => simp only [pk, q2, R.bind] at p; exact p.elim
          | some w2 =>
            simp only [pk, q2, R.bind] at p
            obtain ⟨v', hv', hw'⟩ := r2.at_ i w2 q2
            rw [hv] at hv'; cases hv'
            obtain ⟨w, ew, n⟩ := Post.ofO F p fun _ h => .inl h
            exact S Z2 H2 σ env2 v u _ e w Q r2 (hw'.vw r2.ex) s2 ew n
      | exc c ns ds env2 => rw [eg] at p; exact p
      | bad => rw [eg] at p; exact p
theorem pd2 {op : Operator} {r : R2} {o : D → D → Option W} (F : Fin κ inj) (ho : OpR X (binaryOp op) r) (S : S2 T r o) (ha : PE X a (TF T Wx KD f)) (hb : PE X b (TF T Wx KV g)) : PE X (.BinOp a op b pos) (TF T Wx κ (m2 inj o f g)) :=
  peImp (pe_op ho ha hb) fun _ _ _ q => tf2 F S q
theorem pd2n {op : Operator} {r : R2} {o : D → D → Option W} (F : Fin κ inj) (ho : OpR X (binaryOp op) r) (S : S2 T r o) (ha : PE X a (tVar i)) (hb : PE X b (TF T Wx KV g)) : PE X (.BinOp a op b pos) (TF T Wx κ (m2n inj o i g)) :=
  peImp (pe_op ho ha hb) fun _ _ _ q => tf2n F S q
theorem pdc2 {op : CmpOp} {r : R2} {o : D → D → Option W} (F : Fin κ inj) (ho : OpR X (compareOp op) r) (S : S2 T r o) (ha : PE X a (TF T Wx KD f)) (hb : PE X b (TF T Wx KV g)) (hm : behindInMarks op b = false) : PE X (.Compare a [op] [b] pos) (TF T Wx κ (m2 inj o f g)) :=
  peImp (pe_cmpR ho ha hb hm) fun _ _ _ q => tf2 F S q
theorem pdc2n {op : CmpOp} {r : R2} {o : D → D → Option W} (F : Fin κ inj) (ho : OpR X (compareOp op) r) (S : S2 T r o) (ha : PE X a (tVar i)) (hb : PE X b (TF T Wx KV g)) (hm : behindInMarks op b = false) : PE X (.Compare a [op] [b] pos) (TF T Wx κ (m2n inj o i g)) :=
  peImp (pe_cmpR ho ha hb hm) fun _ _ _ q => tf2n F S q
theorem pdx2 {r : R2} {o : D → D → Option W} (F : Fin κ inj) (ho : IxR X r) (S : S2 T r o) (ha : PE X a (TF T Wx KD f)) (hb : PE X b (TF T Wx KV g)) (hs : PlainIx b) : PE X (.Subscript a b pos) (TF T Wx κ (m2 inj o f g)) :=
  peImp (pe_ix ho ha hb hs) fun _ _ _ q => tf2 F S q
theorem pdx2n {r : R2} {o : D → D → Option W} (F : Fin κ inj) (ho : IxR X r) (S : S2 T r o) (ha : PE X a (tVar i)) (hb : PE X b (TF T Wx KV g)) (hs : PlainIx b) : PE X (.Subscript a b pos) (TF T Wx κ (m2n inj o i g)) :=
  peImp (pe_ix ho ha hb hs) fun _ _ _ q => tf2n F S q
end
end Wc
namespace Wc
open PySem L2 PySem.SeqAt
def D.kind : D → Nat
  | .non => 0
  | .bl _ => 1
  | .int _ => 1
  | .str _ => 2
  | .tup _ => 3
  | .lst _ => 4
  | .dic _ _ => 5
  | .obj _ _ _ => 5
  | .scr _ => 5
  | .exn _ _ _ => 5
  | .fnv _ => 5
/-- of two that hold nothing, or of two kinds -/
def eqS : D → D → Option Bool
  | .non, .non => some true
  | .bl a, .bl b => some (a == b)
  | .bl a, .int j => some ((if a then 1 else 0) == j)
  | .int i, .bl b => some (i == (if b then 1 else 0))
  | .int i, .int j => some (i == j)
  | .str s, .str t => some (s == t)
  | d, e => if d.kind < 5 ∧ e.kind < 5 ∧ d.kind ≠ e.kind then some false else none
/-- .. or an empty dict beside something -/
def eqE : D → D → Option Bool
  | .dic [] [], .dic [] [] => some true
  | .dic [] [], e => if e.kind < 5 then some false else none
  | d, .dic [] [] => if d.kind < 5 then some false else none
  | d, e => eqS d e
def eqL (f : D → D → Option Bool) : List D → List D → Option Bool
  | [], [] => some true
  | x :: xs, y :: ys => (f x y).bind fun a => (eqL f xs ys).bind fun b => some (a && b)
  | [], _ :: _ => some false
  | _ :: _, [] => some false
def eqD : Nat → D → D → Option Bool
  | 0 => eqE
  | n + 1 => fun d e => match d, e with
    | .tup xs, .tup ys => eqL (eqD n) xs ys
    | .lst xs, .lst ys => if xs.length = ys.length then eqL (eqD n) xs ys else some false
    | d, e => eqE d e
theorem str_beq (x y : List Nat) : ((⟨x.toArray⟩ : Str) == ⟨y.toArray⟩) = (x == y) := by
  by_cases e : x = y
  · subst e; simp
  · have h : (⟨x.toArray⟩ : Str) ≠ ⟨y.toArray⟩ := fun q => e (by
      have := congrArg (fun z : Str => z.cps.toList) q
      simpa using this)
    rw [beq_eq_false_iff_ne.mpr h, beq_eq_false_iff_ne.mpr e]
section
variable {X : Cx} {T : Cl} {pins : List (Addr × Obj)} {σ : St} {H : Hp} {s : Shared} {A : Around} {v1 v2 : V} {u1 u2 : Value} {k : Bool}
theorem Rc_non_non (I : Inv X pins σ H s) (hu : A.units < cLine) (h1 : Sh T H .non v1) (h2 : Sh T H .non v2) (r1 : RelV v1 u1) (r2 : RelV v2 u2) (h : eqS .non .non = some k) : RcAt A s u1 u2 k := by
    obtain rfl := h1
    cases r1
    obtain rfl := h2
    cases r2
    simp only [eqS, D.kind] at h
    cases h
    exact RcAt.none_none
theorem Rc_non_bl {y : Bool} (I : Inv X pins σ H s) (hu : A.units < cLine) (h1 : Sh T H .non v1) (h2 : Sh T H (.bl y) v2) (r1 : RelV v1 u1) (r2 : RelV v2 u2) (h : eqS .non (.bl y) = some k) : RcAt A s u1 u2 k := by
    obtain rfl := h1
    cases r1
    obtain rfl := h2
    cases r2
    simp only [eqS, D.kind] at h
    cases h
    exact RcAt.none_bool y
theorem Rc_non_int {y : Int} (I : Inv X pins σ H s) (hu : A.units < cLine) (h1 : Sh T H .non v1) (h2 : Sh T H (.int y) v2) (r1 : RelV v1 u1) (r2 : RelV v2 u2) (h : eqS .non (.int y) = some k) : RcAt A s u1 u2 k := by
    obtain rfl := h1
    cases r1
    obtain rfl := h2
    obtain ⟨t2, rfl⟩ := r2
    simp only [eqS, D.kind] at h
    cases h
    exact RcAt.none_int y _
theorem Rc_non_str {y : List Nat} (I : Inv X pins σ H s) (hu : A.units < cLine) (h1 : Sh T H .non v1) (h2 : Sh T H (.str y) v2) (r1 : RelV v1 u1) (r2 : RelV v2 u2) (h : eqS .non (.str y) = some k) : RcAt A s u1 u2 k := by
    obtain rfl := h1
    cases r1
    obtain ⟨rfl, _⟩ := h2
    obtain ⟨t2, rfl⟩ := r2
    simp only [eqS, D.kind] at h
    cases h
    exact RcAt.none_str _ _
theorem Rc_non_tup {y : List D} (I : Inv X pins σ H s) (hu : A.units < cLine) (h1 : Sh T H .non v1) (h2 : Sh T H (.tup y) v2) (r1 : RelV v1 u1) (r2 : RelV v2 u2) (h : eqS .non (.tup y) = some k) : RcAt A s u1 u2 k := by
    obtain rfl := h1
    cases r1
    obtain ⟨a2, vs2, rfl, hz2, _, hs2⟩ := h2
    cases r2
    obtain ⟨its2, rv2, ht2, _⟩ := I.tuple (SqT.of (K := X.K) hz2)
    simp only [eqS, D.kind] at h
    cases h
    exact RcAt.none_tuple ht2 hu
theorem Rc_non_lst {y : List D} (I : Inv X pins σ H s) (hu : A.units < cLine) (h1 : Sh T H .non v1) (h2 : Sh T H (.lst y) v2) (r1 : RelV v1 u1) (r2 : RelV v2 u2) (h : eqS .non (.lst y) = some k) : RcAt A s u1 u2 k := by
    obtain rfl := h1
    cases r1
    obtain ⟨a2, vs2, rfl, hz2, _, hs2⟩ := h2
    cases r2
    obtain ⟨its2, rv2, ht02, _⟩ := I.list (SqL.of (K := X.K) hz2)
    have ht2 := ht02.isList
    simp only [eqS, D.kind] at h
    cases h
    exact RcAt.none_list ht2 hu
theorem Rc_bl_non {x : Bool} (I : Inv X pins σ H s) (hu : A.units < cLine) (h1 : Sh T H (.bl x) v1) (h2 : Sh T H .non v2) (r1 : RelV v1 u1) (r2 : RelV v2 u2) (h : eqS (.bl x) .non = some k) : RcAt A s u1 u2 k := by
    obtain rfl := h1
    cases r1
    obtain rfl := h2
    cases r2
    simp only [eqS, D.kind] at h
    cases h
    exact RcAt.bool_none x
theorem Rc_bl_bl {x : Bool} {y : Bool} (I : Inv X pins σ H s) (hu : A.units < cLine) (h1 : Sh T H (.bl x) v1) (h2 : Sh T H (.bl y) v2) (r1 : RelV v1 u1) (r2 : RelV v2 u2) (h : eqS (.bl x) (.bl y) = some k) : RcAt A s u1 u2 k := by
    obtain rfl := h1
    cases r1
    obtain rfl := h2
    cases r2
    simp only [eqS, D.kind] at h
    cases h
    exact RcAt.bool_bool x y
theorem Rc_bl_int {x : Bool} {y : Int} (I : Inv X pins σ H s) (hu : A.units < cLine) (h1 : Sh T H (.bl x) v1) (h2 : Sh T H (.int y) v2) (r1 : RelV v1 u1) (r2 : RelV v2 u2) (h : eqS (.bl x) (.int y) = some k) : RcAt A s u1 u2 k := by
    obtain rfl := h1
    cases r1
    obtain rfl := h2
    obtain ⟨t2, rfl⟩ := r2
    simp only [eqS, D.kind] at h
    cases h
    exact RcAt.bool_int x y _
theorem Rc_bl_str {x : Bool} {y : List Nat} (I : Inv X pins σ H s) (hu : A.units < cLine) (h1 : Sh T H (.bl x) v1) (h2 : Sh T H (.str y) v2) (r1 : RelV v1 u1) (r2 : RelV v2 u2) (h : eqS (.bl x) (.str y) = some k) : RcAt A s u1 u2 k := by
    obtain rfl := h1
    cases r1
    obtain ⟨rfl, _⟩ := h2
    obtain ⟨t2, rfl⟩ := r2
    simp only [eqS, D.kind] at h
    cases h
    exact RcAt.bool_str x _ _
theorem Rc_bl_tup {x : Bool} {y : List D} (I : Inv X pins σ H s) (hu : A.units < cLine) (h1 : Sh T H (.bl x) v1) (h2 : Sh T H (.tup y) v2) (r1 : RelV v1 u1) (r2 : RelV v2 u2) (h : eqS (.bl x) (.tup y) = some k) : RcAt A s u1 u2 k := by
    obtain rfl := h1
    cases r1
    obtain ⟨a2, vs2, rfl, hz2, _, hs2⟩ := h2
    cases r2
    obtain ⟨its2, rv2, ht2, _⟩ := I.tuple (SqT.of (K := X.K) hz2)
    simp only [eqS, D.kind] at h
    cases h
    exact RcAt.bool_tuple x ht2 hu
theorem Rc_bl_lst {x : Bool} {y : List D} (I : Inv X pins σ H s) (hu : A.units < cLine) (h1 : Sh T H (.bl x) v1) (h2 : Sh T H (.lst y) v2) (r1 : RelV v1 u1) (r2 : RelV v2 u2) (h : eqS (.bl x) (.lst y) = some k) : RcAt A s u1 u2 k := by
    obtain rfl := h1
    cases r1
    obtain ⟨a2, vs2, rfl, hz2, _, hs2⟩ := h2
    cases r2
    obtain ⟨its2, rv2, ht02, _⟩ := I.list (SqL.of (K := X.K) hz2)
    have ht2 := ht02.isList
    simp only [eqS, D.kind] at h
    cases h
    exact RcAt.bool_list x ht2 hu
theorem Rc_int_non {x : Int} (I : Inv X pins σ H s) (hu : A.units < cLine) (h1 : Sh T H (.int x) v1) (h2 : Sh T H .non v2) (r1 : RelV v1 u1) (r2 : RelV v2 u2) (h : eqS (.int x) .non = some k) : RcAt A s u1 u2 k := by
    obtain rfl := h1
    obtain ⟨t1, rfl⟩ := r1
    obtain rfl := h2
    cases r2
    simp only [eqS, D.kind] at h
    cases h
    exact RcAt.int_none x _
theorem Rc_int_bl {x : Int} {y : Bool} (I : Inv X pins σ H s) (hu : A.units < cLine) (h1 : Sh T H (.int x) v1) (h2 : Sh T H (.bl y) v2) (r1 : RelV v1 u1) (r2 : RelV v2 u2) (h : eqS (.int x) (.bl y) = some k) : RcAt A s u1 u2 k := by
    obtain rfl := h1
    obtain ⟨t1, rfl⟩ := r1
    obtain rfl := h2
    cases r2
    simp only [eqS, D.kind] at h
    cases h
    exact RcAt.int_bool x _ y
theorem Rc_int_int {x : Int} {y : Int} (I : Inv X pins σ H s) (hu : A.units < cLine) (h1 : Sh T H (.int x) v1) (h2 : Sh T H (.int y) v2) (r1 : RelV v1 u1) (r2 : RelV v2 u2) (h : eqS (.int x) (.int y) = some k) : RcAt A s u1 u2 k := by
    obtain rfl := h1
    obtain ⟨t1, rfl⟩ := r1
    obtain rfl := h2
    obtain ⟨t2, rfl⟩ := r2
    simp only [eqS, D.kind] at h
    cases h
    exact RcAt.int_int x _ y _
theorem Rc_int_str {x : Int} {y : List Nat} (I : Inv X pins σ H s) (hu : A.units < cLine) (h1 : Sh T H (.int x) v1) (h2 : Sh T H (.str y) v2) (r1 : RelV v1 u1) (r2 : RelV v2 u2) (h : eqS (.int x) (.str y) = some k) : RcAt A s u1 u2 k := by
    obtain rfl := h1
    obtain ⟨t1, rfl⟩ := r1
    obtain ⟨rfl, _⟩ := h2
    obtain ⟨t2, rfl⟩ := r2
    simp only [eqS, D.kind] at h
    cases h
    exact RcAt.int_str x _ _ _
theorem Rc_int_tup {x : Int} {y : List D} (I : Inv X pins σ H s) (hu : A.units < cLine) (h1 : Sh T H (.int x) v1) (h2 : Sh T H (.tup y) v2) (r1 : RelV v1 u1) (r2 : RelV v2 u2) (h : eqS (.int x) (.tup y) = some k) : RcAt A s u1 u2 k := by
    obtain rfl := h1
    obtain ⟨t1, rfl⟩ := r1
    obtain ⟨a2, vs2, rfl, hz2, _, hs2⟩ := h2
    cases r2
    obtain ⟨its2, rv2, ht2, _⟩ := I.tuple (SqT.of (K := X.K) hz2)
    simp only [eqS, D.kind] at h
    cases h
    exact RcAt.int_tuple x _ ht2 hu
theorem Rc_int_lst {x : Int} {y : List D} (I : Inv X pins σ H s) (hu : A.units < cLine) (h1 : Sh T H (.int x) v1) (h2 : Sh T H (.lst y) v2) (r1 : RelV v1 u1) (r2 : RelV v2 u2) (h : eqS (.int x) (.lst y) = some k) : RcAt A s u1 u2 k := by
    obtain rfl := h1
    obtain ⟨t1, rfl⟩ := r1
    obtain ⟨a2, vs2, rfl, hz2, _, hs2⟩ := h2
    cases r2
    obtain ⟨its2, rv2, ht02, _⟩ := I.list (SqL.of (K := X.K) hz2)
    have ht2 := ht02.isList
    simp only [eqS, D.kind] at h
    cases h
    exact RcAt.int_list x _ ht2 hu
theorem Rc_str_non {x : List Nat} (I : Inv X pins σ H s) (hu : A.units < cLine) (h1 : Sh T H (.str x) v1) (h2 : Sh T H .non v2) (r1 : RelV v1 u1) (r2 : RelV v2 u2) (h : eqS (.str x) .non = some k) : RcAt A s u1 u2 k := by
    obtain ⟨rfl, _⟩ := h1
    obtain ⟨t1, rfl⟩ := r1
    obtain rfl := h2
    cases r2
    simp only [eqS, D.kind] at h
    cases h
    exact RcAt.str_none _ _
theorem Rc_str_bl {x : List Nat} {y : Bool} (I : Inv X pins σ H s) (hu : A.units < cLine) (h1 : Sh T H (.str x) v1) (h2 : Sh T H (.bl y) v2) (r1 : RelV v1 u1) (r2 : RelV v2 u2) (h : eqS (.str x) (.bl y) = some k) : RcAt A s u1 u2 k := by
    obtain ⟨rfl, _⟩ := h1
    obtain ⟨t1, rfl⟩ := r1
    obtain rfl := h2
    cases r2
    simp only [eqS, D.kind] at h
    cases h
    exact RcAt.str_bool _ _ y
theorem Rc_str_int {x : List Nat} {y : Int} (I : Inv X pins σ H s) (hu : A.units < cLine) (h1 : Sh T H (.str x) v1) (h2 : Sh T H (.int y) v2) (r1 : RelV v1 u1) (r2 : RelV v2 u2) (h : eqS (.str x) (.int y) = some k) : RcAt A s u1 u2 k := by
    obtain ⟨rfl, _⟩ := h1
    obtain ⟨t1, rfl⟩ := r1
    obtain rfl := h2
    obtain ⟨t2, rfl⟩ := r2
    simp only [eqS, D.kind] at h
    cases h
    exact RcAt.str_int _ _ y _
theorem Rc_str_str {x : List Nat} {y : List Nat} (I : Inv X pins σ H s) (hu : A.units < cLine) (h1 : Sh T H (.str x) v1) (h2 : Sh T H (.str y) v2) (r1 : RelV v1 u1) (r2 : RelV v2 u2) (h : eqS (.str x) (.str y) = some k) : RcAt A s u1 u2 k := by
    obtain ⟨rfl, _⟩ := h1
    obtain ⟨t1, rfl⟩ := r1
    obtain ⟨rfl, _⟩ := h2
    obtain ⟨t2, rfl⟩ := r2
    simp only [eqS, D.kind] at h
    cases h
    have e : ((⟨x.toArray⟩ : Str) == ⟨y.toArray⟩) = (x == y) := str_beq x y
    rw [← e]
    exact RcAt.str_str _ _ _ _
theorem Rc_str_tup {x : List Nat} {y : List D} (I : Inv X pins σ H s) (hu : A.units < cLine) (h1 : Sh T H (.str x) v1) (h2 : Sh T H (.tup y) v2) (r1 : RelV v1 u1) (r2 : RelV v2 u2) (h : eqS (.str x) (.tup y) = some k) : RcAt A s u1 u2 k := by
    obtain ⟨rfl, _⟩ := h1
    obtain ⟨t1, rfl⟩ := r1
    obtain ⟨a2, vs2, rfl, hz2, _, hs2⟩ := h2
    cases r2
    obtain ⟨its2, rv2, ht2, _⟩ := I.tuple (SqT.of (K := X.K) hz2)
    simp only [eqS, D.kind] at h
    cases h
    exact RcAt.str_tuple _ _ ht2 hu
theorem Rc_str_lst {x : List Nat} {y : List D} (I : Inv X pins σ H s) (hu : A.units < cLine) (h1 : Sh T H (.str x) v1) (h2 : Sh T H (.lst y) v2) (r1 : RelV v1 u1) (r2 : RelV v2 u2) (h : eqS (.str x) (.lst y) = some k) : RcAt A s u1 u2 k := by
    obtain ⟨rfl, _⟩ := h1
    obtain ⟨t1, rfl⟩ := r1
    obtain ⟨a2, vs2, rfl, hz2, _, hs2⟩ := h2
    cases r2
    obtain ⟨its2, rv2, ht02, _⟩ := I.list (SqL.of (K := X.K) hz2)
    have ht2 := ht02.isList
    simp only [eqS, D.kind] at h
    cases h
    exact RcAt.str_list _ _ ht2 hu
theorem Rc_tup_non {x : List D} (I : Inv X pins σ H s) (hu : A.units < cLine) (h1 : Sh T H (.tup x) v1) (h2 : Sh T H .non v2) (r1 : RelV v1 u1) (r2 : RelV v2 u2) (h : eqS (.tup x) .non = some k) : RcAt A s u1 u2 k := by
    obtain ⟨a1, vs1, rfl, hz1, _, hs1⟩ := h1
    cases r1
    obtain ⟨its1, rv1, ht1, _⟩ := I.tuple (SqT.of (K := X.K) hz1)
    obtain rfl := h2
    cases r2
    simp only [eqS, D.kind] at h
    cases h
    exact RcAt.tuple_none ht1 hu
theorem Rc_tup_bl {x : List D} {y : Bool} (I : Inv X pins σ H s) (hu : A.units < cLine) (h1 : Sh T H (.tup x) v1) (h2 : Sh T H (.bl y) v2) (r1 : RelV v1 u1) (r2 : RelV v2 u2) (h : eqS (.tup x) (.bl y) = some k) : RcAt A s u1 u2 k := by
    obtain ⟨a1, vs1, rfl, hz1, _, hs1⟩ := h1
    cases r1
    obtain ⟨its1, rv1, ht1, _⟩ := I.tuple (SqT.of (K := X.K) hz1)
    obtain rfl := h2
    cases r2
    simp only [eqS, D.kind] at h
    cases h
    exact RcAt.tuple_bool y ht1 hu
theorem Rc_tup_int {x : List D} {y : Int} (I : Inv X pins σ H s) (hu : A.units < cLine) (h1 : Sh T H (.tup x) v1) (h2 : Sh T H (.int y) v2) (r1 : RelV v1 u1) (r2 : RelV v2 u2) (h : eqS (.tup x) (.int y) = some k) : RcAt A s u1 u2 k := by
    obtain ⟨a1, vs1, rfl, hz1, _, hs1⟩ := h1
    cases r1
    obtain ⟨its1, rv1, ht1, _⟩ := I.tuple (SqT.of (K := X.K) hz1)
    obtain rfl := h2
    obtain ⟨t2, rfl⟩ := r2
    simp only [eqS, D.kind] at h
    cases h
    exact RcAt.tuple_int y _ ht1 hu
theorem Rc_tup_str {x : List D} {y : List Nat} (I : Inv X pins σ H s) (hu : A.units < cLine) (h1 : Sh T H (.tup x) v1) (h2 : Sh T H (.str y) v2) (r1 : RelV v1 u1) (r2 : RelV v2 u2) (h : eqS (.tup x) (.str y) = some k) : RcAt A s u1 u2 k := by
    obtain ⟨a1, vs1, rfl, hz1, _, hs1⟩ := h1
    cases r1
    obtain ⟨its1, rv1, ht1, _⟩ := I.tuple (SqT.of (K := X.K) hz1)
    obtain ⟨rfl, _⟩ := h2
    obtain ⟨t2, rfl⟩ := r2
    simp only [eqS, D.kind] at h
    cases h
    exact RcAt.tuple_str _ _ ht1 hu
theorem Rc_tup_lst {x : List D} {y : List D} (I : Inv X pins σ H s) (hu : A.units < cLine) (h1 : Sh T H (.tup x) v1) (h2 : Sh T H (.lst y) v2) (r1 : RelV v1 u1) (r2 : RelV v2 u2) (h : eqS (.tup x) (.lst y) = some k) : RcAt A s u1 u2 k := by
    obtain ⟨a1, vs1, rfl, hz1, _, hs1⟩ := h1
    cases r1
    obtain ⟨its1, rv1, ht1, _⟩ := I.tuple (SqT.of (K := X.K) hz1)
    obtain ⟨a2, vs2, rfl, hz2, _, hs2⟩ := h2
    cases r2
    obtain ⟨its2, rv2, ht02, _⟩ := I.list (SqL.of (K := X.K) hz2)
    have ht2 := ht02.isList
    simp only [eqS, D.kind] at h
    cases h
    exact RcAt.tuple_list ht1 ht2 hu
theorem Rc_lst_non {x : List D} (I : Inv X pins σ H s) (hu : A.units < cLine) (h1 : Sh T H (.lst x) v1) (h2 : Sh T H .non v2) (r1 : RelV v1 u1) (r2 : RelV v2 u2) (h : eqS (.lst x) .non = some k) : RcAt A s u1 u2 k := by
    obtain ⟨a1, vs1, rfl, hz1, _, hs1⟩ := h1
    cases r1
    obtain ⟨its1, rv1, ht01, _⟩ := I.list (SqL.of (K := X.K) hz1)
    have ht1 := ht01.isList
    obtain rfl := h2
    cases r2
    simp only [eqS, D.kind] at h
    cases h
    exact RcAt.list_none ht1 hu
theorem Rc_lst_bl {x : List D} {y : Bool} (I : Inv X pins σ H s) (hu : A.units < cLine) (h1 : Sh T H (.lst x) v1) (h2 : Sh T H (.bl y) v2) (r1 : RelV v1 u1) (r2 : RelV v2 u2) (h : eqS (.lst x) (.bl y) = some k) : RcAt A s u1 u2 k := by
    obtain ⟨a1, vs1, rfl, hz1, _, hs1⟩ := h1
    cases r1
    obtain ⟨its1, rv1, ht01, _⟩ := I.list (SqL.of (K := X.K) hz1)
    have ht1 := ht01.isList
    obtain rfl := h2
    cases r2
    simp only [eqS, D.kind] at h
    cases h
    exact RcAt.list_bool y ht1 hu
theorem Rc_lst_int {x : List D} {y : Int} (I : Inv X pins σ H s) (hu : A.units < cLine) (h1 : Sh T H (.lst x) v1) (h2 : Sh T H (.int y) v2) (r1 : RelV v1 u1) (r2 : RelV v2 u2) (h : eqS (.lst x) (.int y) = some k) : RcAt A s u1 u2 k := by
    obtain ⟨a1, vs1, rfl, hz1, _, hs1⟩ := h1
    cases r1
    obtain ⟨its1, rv1, ht01, _⟩ := I.list (SqL.of (K := X.K) hz1)
    have ht1 := ht01.isList
    obtain rfl := h2
    obtain ⟨t2, rfl⟩ := r2
    simp only [eqS, D.kind] at h
    cases h
    exact RcAt.list_int y _ ht1 hu
theorem Rc_lst_str {x : List D} {y : List Nat} (I : Inv X pins σ H s) (hu : A.units < cLine) (h1 : Sh T H (.lst x) v1) (h2 : Sh T H (.str y) v2) (r1 : RelV v1 u1) (r2 : RelV v2 u2) (h : eqS (.lst x) (.str y) = some k) : RcAt A s u1 u2 k := by
    obtain ⟨a1, vs1, rfl, hz1, _, hs1⟩ := h1
    cases r1
    obtain ⟨its1, rv1, ht01, _⟩ := I.list (SqL.of (K := X.K) hz1)
    have ht1 := ht01.isList
    obtain ⟨rfl, _⟩ := h2
    obtain ⟨t2, rfl⟩ := r2
    simp only [eqS, D.kind] at h
    cases h
    exact RcAt.list_str _ _ ht1 hu
theorem Rc_lst_tup {x : List D} {y : List D} (I : Inv X pins σ H s) (hu : A.units < cLine) (h1 : Sh T H (.lst x) v1) (h2 : Sh T H (.tup y) v2) (r1 : RelV v1 u1) (r2 : RelV v2 u2) (h : eqS (.lst x) (.tup y) = some k) : RcAt A s u1 u2 k := by
    obtain ⟨a1, vs1, rfl, hz1, _, hs1⟩ := h1
    cases r1
    obtain ⟨its1, rv1, ht01, _⟩ := I.list (SqL.of (K := X.K) hz1)
    have ht1 := ht01.isList
    obtain ⟨a2, vs2, rfl, hz2, _, hs2⟩ := h2
    cases r2
    obtain ⟨its2, rv2, ht2, _⟩ := I.tuple (SqT.of (K := X.K) hz2)
    simp only [eqS, D.kind] at h
    cases h
    exact RcAt.list_tuple ht1 ht2 hu
theorem RcNe_non_non (I : Inv X pins σ H s) (hu : A.units < cLine) (h1 : Sh T H .non v1) (h2 : Sh T H .non v2) (r1 : RelV v1 u1) (r2 : RelV v2 u2) (h : eqS .non .non = some k) : RcNeAt A s u1 u2 (!k) := by
    obtain rfl := h1
    cases r1
    obtain rfl := h2
    cases r2
    simp only [eqS, D.kind] at h
    cases h
    first | exact RcNeAt.none_none | (have z := RcNeAt.none_none; simpa using z)
theorem RcNe_non_bl {y : Bool} (I : Inv X pins σ H s) (hu : A.units < cLine) (h1 : Sh T H .non v1) (h2 : Sh T H (.bl y) v2) (r1 : RelV v1 u1) (r2 : RelV v2 u2) (h : eqS .non (.bl y) = some k) : RcNeAt A s u1 u2 (!k) := by
    obtain rfl := h1
    cases r1
    obtain rfl := h2
    cases r2
    simp only [eqS, D.kind] at h
    cases h
    first | exact RcNeAt.none_bool y | (have z := RcNeAt.none_bool y; simpa using z)
theorem RcNe_non_int {y : Int} (I : Inv X pins σ H s) (hu : A.units < cLine) (h1 : Sh T H .non v1) (h2 : Sh T H (.int y) v2) (r1 : RelV v1 u1) (r2 : RelV v2 u2) (h : eqS .non (.int y) = some k) : RcNeAt A s u1 u2 (!k) := by
    obtain rfl := h1
    cases r1
    obtain rfl := h2
    obtain ⟨t2, rfl⟩ := r2
    simp only [eqS, D.kind] at h
    cases h
    first | exact RcNeAt.none_int y _ | (have z := RcNeAt.none_int y _; simpa using z)
theorem RcNe_non_str {y : List Nat} (I : Inv X pins σ H s) (hu : A.units < cLine) (h1 : Sh T H .non v1) (h2 : Sh T H (.str y) v2) (r1 : RelV v1 u1) (r2 : RelV v2 u2) (h : eqS .non (.str y) = some k) : RcNeAt A s u1 u2 (!k) := by
    obtain rfl := h1
    cases r1
    obtain ⟨rfl, _⟩ := h2
    obtain ⟨t2, rfl⟩ := r2
    simp only [eqS, D.kind] at h
    cases h
    first | exact RcNeAt.none_str _ _ | (have z := RcNeAt.none_str _ _; simpa using z)
theorem RcNe_non_tup {y : List D} (I : Inv X pins σ H s) (hu : A.units < cLine) (h1 : Sh T H .non v1) (h2 : Sh T H (.tup y) v2) (r1 : RelV v1 u1) (r2 : RelV v2 u2) (h : eqS .non (.tup y) = some k) : RcNeAt A s u1 u2 (!k) := by
    obtain rfl := h1
    cases r1
    obtain ⟨a2, vs2, rfl, hz2, _, hs2⟩ := h2
    cases r2
    obtain ⟨its2, rv2, ht2, _⟩ := I.tuple (SqT.of (K := X.K) hz2)
    simp only [eqS, D.kind] at h
    cases h
    first | exact RcNeAt.none_tuple ht2 hu | (have z := RcNeAt.none_tuple ht2 hu; simpa using z)
theorem RcNe_non_lst {y : List D} (I : Inv X pins σ H s) (hu : A.units < cLine) (h1 : Sh T H .non v1) (h2 : Sh T H (.lst y) v2) (r1 : RelV v1 u1) (r2 : RelV v2 u2) (h : eqS .non (.lst y) = some k) : RcNeAt A s u1 u2 (!k) := by
    obtain rfl := h1
    cases r1
    obtain ⟨a2, vs2, rfl, hz2, _, hs2⟩ := h2
    cases r2
    obtain ⟨its2, rv2, ht02, _⟩ := I.list (SqL.of (K := X.K) hz2)
    have ht2 := ht02.isList
    simp only [eqS, D.kind] at h
    cases h
    first | exact RcNeAt.none_list ht2 hu | (have z := RcNeAt.none_list ht2 hu; simpa using z)
theorem RcNe_bl_non {x : Bool} (I : Inv X pins σ H s) (hu : A.units < cLine) (h1 : Sh T H (.bl x) v1) (h2 : Sh T H .non v2) (r1 : RelV v1 u1) (r2 : RelV v2 u2) (h : eqS (.bl x) .non = some k) : RcNeAt A s u1 u2 (!k) := by
    obtain rfl := h1
    cases r1
    obtain rfl := h2
    cases r2
    simp only [eqS, D.kind] at h
    cases h
    first | exact RcNeAt.bool_none x | (have z := RcNeAt.bool_none x; simpa using z)
theorem RcNe_bl_bl {x : Bool} {y : Bool} (I : Inv X pins σ H s) (hu : A.units < cLine) (h1 : Sh T H (.bl x) v1) (h2 : Sh T H (.bl y) v2) (r1 : RelV v1 u1) (r2 : RelV v2 u2) (h : eqS (.bl x) (.bl y) = some k) : RcNeAt A s u1 u2 (!k) := by
    obtain rfl := h1
    cases r1
    obtain rfl := h2
    cases r2
    simp only [eqS, D.kind] at h
    cases h
    first | exact RcNeAt.bool_bool x y | (have z := RcNeAt.bool_bool x y; simpa using z)
theorem RcNe_bl_int {x : Bool} {y : Int} (I : Inv X pins σ H s) (hu : A.units < cLine) (h1 : Sh T H (.bl x) v1) (h2 : Sh T H (.int y) v2) (r1 : RelV v1 u1) (r2 : RelV v2 u2) (h : eqS (.bl x) (.int y) = some k) : RcNeAt A s u1 u2 (!k) := by
    obtain rfl := h1
    cases r1
    obtain rfl := h2
    obtain ⟨t2, rfl⟩ := r2
    simp only [eqS, D.kind] at h
    cases h
    first | exact RcNeAt.bool_int x y _ | (have z := RcNeAt.bool_int x y _; simpa using z)
theorem RcNe_bl_str {x : Bool} {y : List Nat} (I : Inv X pins σ H s) (hu : A.units < cLine) (h1 : Sh T H (.bl x) v1) (h2 : Sh T H (.str y) v2) (r1 : RelV v1 u1) (r2 : RelV v2 u2) (h : eqS (.bl x) (.str y) = some k) : RcNeAt A s u1 u2 (!k) := by
    obtain rfl := h1
    cases r1
    obtain ⟨rfl, _⟩ := h2
    obtain ⟨t2, rfl⟩ := r2
    simp only [eqS, D.kind] at h
    cases h
    first | exact RcNeAt.bool_str x _ _ | (have z := RcNeAt.bool_str x _ _; simpa using z)
theorem RcNe_bl_tup {x : Bool} {y : List D} (I : Inv X pins σ H s) (hu : A.units < cLine) (h1 : Sh T H (.bl x) v1) (h2 : Sh T H (.tup y) v2) (r1 : RelV v1 u1) (r2 : RelV v2 u2) (h : eqS (.bl x) (.tup y) = some k) : RcNeAt A s u1 u2 (!k) := by
    obtain rfl := h1
    cases r1
    obtain ⟨a2, vs2, rfl, hz2, _, hs2⟩ := h2
    cases r2
    obtain ⟨its2, rv2, ht2, _⟩ := I.tuple (SqT.of (K := X.K) hz2)
    simp only [eqS, D.kind] at h
    cases h
    first | exact RcNeAt.bool_tuple x ht2 hu | (have z := RcNeAt.bool_tuple x ht2 hu; simpa using z)
theorem RcNe_bl_lst {x : Bool} {y : List D} (I : Inv X pins σ H s) (hu : A.units < cLine) (h1 : Sh T H (.bl x) v1) (h2 : Sh T H (.lst y) v2) (r1 : RelV v1 u1) (r2 : RelV v2 u2) (h : eqS (.bl x) (.lst y) = some k) : RcNeAt A s u1 u2 (!k) := by
    obtain rfl := h1
    cases r1
    obtain ⟨a2, vs2, rfl, hz2, _, hs2⟩ := h2
    cases r2
    obtain ⟨its2, rv2, ht02, _⟩ := I.list (SqL.of (K := X.K) hz2)
    have ht2 := ht02.isList
    simp only [eqS, D.kind] at h
    cases h
    first | exact RcNeAt.bool_list x ht2 hu | (have z := RcNeAt.bool_list x ht2 hu; simpa using z)
theorem RcNe_int_non {x : Int} (I : Inv X pins σ H s) (hu : A.units < cLine) (h1 : Sh T H (.int x) v1) (h2 : Sh T H .non v2) (r1 : RelV v1 u1) (r2 : RelV v2 u2) (h : eqS (.int x) .non = some k) : RcNeAt A s u1 u2 (!k) := by
    obtain rfl := h1
    obtain ⟨t1, rfl⟩ := r1
    obtain rfl := h2
    cases r2
    simp only [eqS, D.kind] at h
    cases h
    first | exact RcNeAt.int_none x _ | (have z := RcNeAt.int_none x _; simpa using z)
theorem RcNe_int_bl {x : Int} {y : Bool} (I : Inv X pins σ H s) (hu : A.units < cLine) (h1 : Sh T H (.int x) v1) (h2 : Sh T H (.bl y) v2) (r1 : RelV v1 u1) (r2 : RelV v2 u2) (h : eqS (.int x) (.bl y) = some k) : RcNeAt A s u1 u2 (!k) := by
    obtain rfl := h1
    obtain ⟨t1, rfl⟩ := r1
    obtain rfl := h2
    cases r2
    simp only [eqS, D.kind] at h
    cases h
    first | exact RcNeAt.int_bool x _ y | (have z := RcNeAt.int_bool x _ y; simpa using z)
theorem RcNe_int_int {x : Int} {y : Int} (I : Inv X pins σ H s) (hu : A.units < cLine) (h1 : Sh T H (.int x) v1) (h2 : Sh T H (.int y) v2) (r1 : RelV v1 u1) (r2 : RelV v2 u2) (h : eqS (.int x) (.int y) = some k) : RcNeAt A s u1 u2 (!k) := by
    obtain rfl := h1
    obtain ⟨t1, rfl⟩ := r1
    obtain rfl := h2
    obtain ⟨t2, rfl⟩ := r2
    simp only [eqS, D.kind] at h
    cases h
    first | exact RcNeAt.int_int x _ y _ | (have z := RcNeAt.int_int x _ y _; simpa using z)
theorem RcNe_int_str {x : Int} {y : List Nat} (I : Inv X pins σ H s) (hu : A.units < cLine) (h1 : Sh T H (.int x) v1) (h2 : Sh T H (.str y) v2) (r1 : RelV v1 u1) (r2 : RelV v2 u2) (h : eqS (.int x) (.str y) = some k) : RcNeAt A s u1 u2 (!k) := by
    obtain rfl := h1
    obtain ⟨t1, rfl⟩ := r1
    obtain ⟨rfl, _⟩ := h2
    obtain ⟨t2, rfl⟩ := r2
    simp only [eqS, D.kind] at h
    cases h
    first | exact RcNeAt.int_str x _ _ _ | (have z := RcNeAt.int_str x _ _ _; simpa using z)
theorem RcNe_int_tup {x : Int} {y : List D} (I : Inv X pins σ H s) (hu : A.units < cLine) (h1 : Sh T H (.int x) v1) (h2 : Sh T H (.tup y) v2) (r1 : RelV v1 u1) (r2 : RelV v2 u2) (h : eqS (.int x) (.tup y) = some k) : RcNeAt A s u1 u2 (!k) := by
    obtain rfl := h1
    obtain ⟨t1, rfl⟩ := r1
    obtain ⟨a2, vs2, rfl, hz2, _, hs2⟩ := h2
    cases r2
    obtain ⟨its2, rv2, ht2, _⟩ := I.tuple (SqT.of (K := X.K) hz2)
    simp only [eqS, D.kind] at h
    cases h
    first | exact RcNeAt.int_tuple x _ ht2 hu | (have z := RcNeAt.int_tuple x _ ht2 hu; simpa using z)
theorem RcNe_int_lst {x : Int} {y : List D} (I : Inv X pins σ H s) (hu : A.units < cLine) (h1 : Sh T H (.int x) v1) (h2 : Sh T H (.lst y) v2) (r1 : RelV v1 u1) (r2 : RelV v2 u2) (h : eqS (.int x) (.lst y) = some k) : RcNeAt A s u1 u2 (!k) := by
    obtain rfl := h1
    obtain ⟨t1, rfl⟩ := r1
    obtain ⟨a2, vs2, rfl, hz2, _, hs2⟩ := h2
    cases r2
    obtain ⟨its2, rv2, ht02, _⟩ := I.list (SqL.of (K := X.K) hz2)
    have ht2 := ht02.isList
    simp only [eqS, D.kind] at h
    cases h
    first | exact RcNeAt.int_list x _ ht2 hu | (have z := RcNeAt.int_list x _ ht2 hu; simpa using z)
theorem RcNe_str_non {x : List Nat} (I : Inv X pins σ H s) (hu : A.units < cLine) (h1 : Sh T H (.str x) v1) (h2 : Sh T H .non v2) (r1 : RelV v1 u1) (r2 : RelV v2 u2) (h : eqS (.str x) .non = some k) : RcNeAt A s u1 u2 (!k) := by
    obtain ⟨rfl, _⟩ := h1
    obtain ⟨t1, rfl⟩ := r1
    obtain rfl := h2
    cases r2
    simp only [eqS, D.kind] at h
    cases h
    first | exact RcNeAt.str_none _ _ | (have z := RcNeAt.str_none _ _; simpa using z)
theorem RcNe_str_bl {x : List Nat} {y : Bool} (I : Inv X pins σ H s) (hu : A.units < cLine) (h1 : Sh T H (.str x) v1) (h2 : Sh T H (.bl y) v2) (r1 : RelV v1 u1) (r2 : RelV v2 u2) (h : eqS (.str x) (.bl y) = some k) : RcNeAt A s u1 u2 (!k) := by
    obtain ⟨rfl, _⟩ := h1
    obtain ⟨t1, rfl⟩ := r1
    obtain rfl := h2
    cases r2
    simp only [eqS, D.kind] at h
    cases h
    first | exact RcNeAt.str_bool _ _ y | (have z := RcNeAt.str_bool _ _ y; simpa using z)
theorem RcNe_str_int {x : List Nat} {y : Int} (I : Inv X pins σ H s) (hu : A.units < cLine) (h1 : Sh T H (.str x) v1) (h2 : Sh T H (.int y) v2) (r1 : RelV v1 u1) (r2 : RelV v2 u2) (h : eqS (.str x) (.int y) = some k) : RcNeAt A s u1 u2 (!k) := by
    obtain ⟨rfl, _⟩ := h1
    obtain ⟨t1, rfl⟩ := r1
    obtain rfl := h2
    obtain ⟨t2, rfl⟩ := r2
    simp only [eqS, D.kind] at h
    cases h
    first | exact RcNeAt.str_int _ _ y _ | (have z := RcNeAt.str_int _ _ y _; simpa using z)
theorem RcNe_str_str {x : List Nat} {y : List Nat} (I : Inv X pins σ H s) (hu : A.units < cLine) (h1 : Sh T H (.str x) v1) (h2 : Sh T H (.str y) v2) (r1 : RelV v1 u1) (r2 : RelV v2 u2) (h : eqS (.str x) (.str y) = some k) : RcNeAt A s u1 u2 (!k) := by
    obtain ⟨rfl, _⟩ := h1
    obtain ⟨t1, rfl⟩ := r1
    obtain ⟨rfl, _⟩ := h2
    obtain ⟨t2, rfl⟩ := r2
    simp only [eqS, D.kind] at h
    cases h
    have e : ((⟨x.toArray⟩ : Str) == ⟨y.toArray⟩) = (x == y) := str_beq x y
    rw [← e]
    first | exact RcNeAt.str_str _ _ _ _ | (have z := RcNeAt.str_str _ _ _ _; simpa using z)
theorem RcNe_str_tup {x : List Nat} {y : List D} (I : Inv X pins σ H s) (hu : A.units < cLine) (h1 : Sh T H (.str x) v1) (h2 : Sh T H (.tup y) v2) (r1 : RelV v1 u1) (r2 : RelV v2 u2) (h : eqS (.str x) (.tup y) = some k) : RcNeAt A s u1 u2 (!k) := by
    obtain ⟨rfl, _⟩ := h1
    obtain ⟨t1, rfl⟩ := r1
    obtain ⟨a2, vs2, rfl, hz2, _, hs2⟩ := h2
    cases r2
    obtain ⟨its2, rv2, ht2, _⟩ := I.tuple (SqT.of (K := X.K) hz2)
    simp only [eqS, D.kind] at h
    cases h
    first | exact RcNeAt.str_tuple _ _ ht2 hu | (have z := RcNeAt.str_tuple _ _ ht2 hu; simpa using z)
theorem RcNe_str_lst {x : List Nat} {y : List D} (I : Inv X pins σ H s) (hu : A.units < cLine) (h1 : Sh T H (.str x) v1) (h2 : Sh T H (.lst y) v2) (r1 : RelV v1 u1) (r2 : RelV v2 u2) (h : eqS (.str x) (.lst y) = some k) : RcNeAt A s u1 u2 (!k) := by
    obtain ⟨rfl, _⟩ := h1
    obtain ⟨t1, rfl⟩ := r1
    obtain ⟨a2, vs2, rfl, hz2, _, hs2⟩ := h2
    cases r2
    obtain ⟨its2, rv2, ht02, _⟩ := I.list (SqL.of (K := X.K) hz2)
    have ht2 := ht02.isList
    simp only [eqS, D.kind] at h
    cases h
    first | exact RcNeAt.str_list _ _ ht2 hu | (have z := RcNeAt.str_list _ _ ht2 hu; simpa using z)
theorem RcNe_tup_non {x : List D} (I : Inv X pins σ H s) (hu : A.units < cLine) (h1 : Sh T H (.tup x) v1) (h2 : Sh T H .non v2) (r1 : RelV v1 u1) (r2 : RelV v2 u2) (h : eqS (.tup x) .non = some k) : RcNeAt A s u1 u2 (!k) := by
    obtain ⟨a1, vs1, rfl, hz1, _, hs1⟩ := h1
    cases r1
    obtain ⟨its1, rv1, ht1, _⟩ := I.tuple (SqT.of (K := X.K) hz1)
    obtain rfl := h2
    cases r2
    simp only [eqS, D.kind] at h
    cases h
    first | exact RcNeAt.tuple_none ht1 hu | (have z := RcNeAt.tuple_none ht1 hu; simpa using z)
theorem RcNe_tup_bl {x : List D} {y : Bool} (I : Inv X pins σ H s) (hu : A.units < cLine) (h1 : Sh T H (.tup x) v1) (h2 : Sh T H (.bl y) v2) (r1 : RelV v1 u1) (r2 : RelV v2 u2) (h : eqS (.tup x) (.bl y) = some k) : RcNeAt A s u1 u2 (!k) := by
    obtain ⟨a1, vs1, rfl, hz1, _, hs1⟩ := h1
    cases r1
    obtain ⟨its1, rv1, ht1, _⟩ := I.tuple (SqT.of (K := X.K) hz1)
    obtain rfl := h2
    cases r2
    simp only [eqS, D.kind] at h
    cases h
    first | exact RcNeAt.tuple_bool y ht1 hu | (have z := RcNeAt.tuple_bool y ht1 hu; simpa using z)
theorem RcNe_tup_int {x : List D} {y : Int} (I : Inv X pins σ H s) (hu : A.units < cLine) (h1 : Sh T H (.tup x) v1) (h2 : Sh T H (.int y) v2) (r1 : RelV v1 u1) (r2 : RelV v2 u2) (h : eqS (.tup x) (.int y) = some k) : RcNeAt A s u1 u2 (!k) := by
    obtain ⟨a1, vs1, rfl, hz1, _, hs1⟩ := h1
    cases r1
    obtain ⟨its1, rv1, ht1, _⟩ := I.tuple (SqT.of (K := X.K) hz1)
    obtain rfl := h2
    obtain ⟨t2, rfl⟩ := r2
    simp only [eqS, D.kind] at h
    cases h
    first | exact RcNeAt.tuple_int y _ ht1 hu | (have z := RcNeAt.tuple_int y _ ht1 hu; simpa using z)
theorem RcNe_tup_str {x : List D} {y : List Nat} (I : Inv X pins σ H s) (hu : A.units < cLine) (h1 : Sh T H (.tup x) v1) (h2 : Sh T H (.str y) v2) (r1 : RelV v1 u1) (r2 : RelV v2 u2) (h : eqS (.tup x) (.str y) = some k) : RcNeAt A s u1 u2 (!k) := by
    obtain ⟨a1, vs1, rfl, hz1, _, hs1⟩ := h1
    cases r1
    obtain ⟨its1, rv1, ht1, _⟩ := I.tuple (SqT.of (K := X.K) hz1)
    obtain ⟨rfl, _⟩ := h2
    obtain ⟨t2, rfl⟩ := r2
    simp only [eqS, D.kind] at h
    cases h
    first | exact RcNeAt.tuple_str _ _ ht1 hu | (have z := RcNeAt.tuple_str _ _ ht1 hu; simpa using z)
theorem RcNe_tup_lst {x : List D} {y : List D} (I : Inv X pins σ H s) (hu : A.units < cLine) (h1 : Sh T H (.tup x) v1) (h2 : Sh T H (.lst y) v2) (r1 : RelV v1 u1) (r2 : RelV v2 u2) (h : eqS (.tup x) (.lst y) = some k) : RcNeAt A s u1 u2 (!k) := by
    obtain ⟨a1, vs1, rfl, hz1, _, hs1⟩ := h1
    cases r1
    obtain ⟨its1, rv1, ht1, _⟩ := I.tuple (SqT.of (K := X.K) hz1)
    obtain ⟨a2, vs2, rfl, hz2, _, hs2⟩ := h2
    cases r2
    obtain ⟨its2, rv2, ht02, _⟩ := I.list (SqL.of (K := X.K) hz2)
    have ht2 := ht02.isList
    simp only [eqS, D.kind] at h
    cases h
    first | exact RcNeAt.tuple_list ht1 ht2 hu | (have z := RcNeAt.tuple_list ht1 ht2 hu; simpa using z)
theorem RcNe_lst_non {x : List D} (I : Inv X pins σ H s) (hu : A.units < cLine) (h1 : Sh T H (.lst x) v1) (h2 : Sh T H .non v2) (r1 : RelV v1 u1) (r2 : RelV v2 u2) (h : eqS (.lst x) .non = some k) : RcNeAt A s u1 u2 (!k) := by
    obtain ⟨a1, vs1, rfl, hz1, _, hs1⟩ := h1
    cases r1
    obtain ⟨its1, rv1, ht01, _⟩ := I.list (SqL.of (K := X.K) hz1)
    have ht1 := ht01.isList
    obtain rfl := h2
    cases r2
    simp only [eqS, D.kind] at h
    cases h
    first | exact RcNeAt.list_none ht1 hu | (have z := RcNeAt.list_none ht1 hu; simpa using z)
theorem RcNe_lst_bl {x : List D} {y : Bool} (I : Inv X pins σ H s) (hu : A.units < cLine) (h1 : Sh T H (.lst x) v1) (h2 : Sh T H (.bl y) v2) (r1 : RelV v1 u1) (r2 : RelV v2 u2) (h : eqS (.lst x) (.bl y) = some k) : RcNeAt A s u1 u2 (!k) := by
    obtain ⟨a1, vs1, rfl, hz1, _, hs1⟩ := h1
    cases r1
    obtain ⟨its1, rv1, ht01, _⟩ := I.list (SqL.of (K := X.K) hz1)
    have ht1 := ht01.isList
    obtain rfl := h2
    cases r2
    simp only [eqS, D.kind] at h
    cases h
    first | exact RcNeAt.list_bool y ht1 hu | (have z := RcNeAt.list_bool y ht1 hu; simpa using z)
theorem RcNe_lst_int {x : List D} {y : Int} (I : Inv X pins σ H s) (hu : A.units < cLine) (h1 : Sh T H (.lst x) v1) (h2 : Sh T H (.int y) v2) (r1 : RelV v1 u1) (r2 : RelV v2 u2) (h : eqS (.lst x) (.int y) = some k) : RcNeAt A s u1 u2 (!k) := by
    obtain ⟨a1, vs1, rfl, hz1, _, hs1⟩ := h1
    cases r1
    obtain ⟨its1, rv1, ht01, _⟩ := I.list (SqL.of (K := X.K) hz1)
    have ht1 := ht01.isList
    obtain rfl := h2
    obtain ⟨t2, rfl⟩ := r2
    simp only [eqS, D.kind] at h
    cases h
    first | exact RcNeAt.list_int y _ ht1 hu | (have z := RcNeAt.list_int y _ ht1 hu; simpa using z)
theorem RcNe_lst_str {x : List D} {y : List Nat} (I : Inv X pins σ H s) (hu : A.units < cLine) (h1 : Sh T H (.lst x) v1) (h2 : Sh T H (.str y) v2) (r1 : RelV v1 u1) (r2 : RelV v2 u2) (h : eqS (.lst x) (.str y) = some k) : RcNeAt A s u1 u2 (!k) := by
    obtain ⟨a1, vs1, rfl, hz1, _, hs1⟩ := h1
    cases r1
    obtain ⟨its1, rv1, ht01, _⟩ := I.list (SqL.of (K := X.K) hz1)
    have ht1 := ht01.isList
    obtain ⟨rfl, _⟩ := h2
    obtain ⟨t2, rfl⟩ := r2
    simp only [eqS, D.kind] at h
    cases h
    first | exact RcNeAt.list_str _ _ ht1 hu | (have z := RcNeAt.list_str _ _ ht1 hu; simpa using z)
theorem RcNe_lst_tup {x : List D} {y : List D} (I : Inv X pins σ H s) (hu : A.units < cLine) (h1 : Sh T H (.lst x) v1) (h2 : Sh T H (.tup y) v2) (r1 : RelV v1 u1) (r2 : RelV v2 u2) (h : eqS (.lst x) (.tup y) = some k) : RcNeAt A s u1 u2 (!k) := by
    obtain ⟨a1, vs1, rfl, hz1, _, hs1⟩ := h1
    cases r1
    obtain ⟨its1, rv1, ht01, _⟩ := I.list (SqL.of (K := X.K) hz1)
    have ht1 := ht01.isList
    obtain ⟨a2, vs2, rfl, hz2, _, hs2⟩ := h2
    cases r2
    obtain ⟨its2, rv2, ht2, _⟩ := I.tuple (SqT.of (K := X.K) hz2)
    simp only [eqS, D.kind] at h
    cases h
    first | exact RcNeAt.list_tuple ht1 ht2 hu | (have z := RcNeAt.list_tuple ht1 ht2 hu; simpa using z)
theorem Eq_non_non (I : Inv X pins σ H s) (hu : A.units < cLine) (h1 : Sh T H .non v1) (h2 : Sh T H .non v2) (r1 : RelV v1 u1) (r2 : RelV v2 u2) (h : eqS .non .non = some k) : EqAt A s u1 u2 k := by
    obtain rfl := h1
    cases r1
    obtain rfl := h2
    cases r2
    simp only [eqS, D.kind] at h
    cases h
    exact EqAt.same _
theorem Eq_non_bl {y : Bool} (I : Inv X pins σ H s) (hu : A.units < cLine) (h1 : Sh T H .non v1) (h2 : Sh T H (.bl y) v2) (r1 : RelV v1 u1) (r2 : RelV v2 u2) (h : eqS .non (.bl y) = some k) : EqAt A s u1 u2 k := by
    obtain rfl := h1
    cases r1
    obtain rfl := h2
    cases r2
    simp only [eqS, D.kind] at h
    cases h
    exact EqAt.none_bool y
theorem Eq_non_int {y : Int} (I : Inv X pins σ H s) (hu : A.units < cLine) (h1 : Sh T H .non v1) (h2 : Sh T H (.int y) v2) (r1 : RelV v1 u1) (r2 : RelV v2 u2) (h : eqS .non (.int y) = some k) : EqAt A s u1 u2 k := by
    obtain rfl := h1
    cases r1
    obtain rfl := h2
    obtain ⟨t2, rfl⟩ := r2
    simp only [eqS, D.kind] at h
    cases h
    exact EqAt.none_int y _
theorem Eq_non_str {y : List Nat} (I : Inv X pins σ H s) (hu : A.units < cLine) (h1 : Sh T H .non v1) (h2 : Sh T H (.str y) v2) (r1 : RelV v1 u1) (r2 : RelV v2 u2) (h : eqS .non (.str y) = some k) : EqAt A s u1 u2 k := by
    obtain rfl := h1
    cases r1
    obtain ⟨rfl, _⟩ := h2
    obtain ⟨t2, rfl⟩ := r2
    simp only [eqS, D.kind] at h
    cases h
    exact EqAt.none_str _ _
theorem Eq_non_tup {y : List D} (I : Inv X pins σ H s) (hu : A.units < cLine) (h1 : Sh T H .non v1) (h2 : Sh T H (.tup y) v2) (r1 : RelV v1 u1) (r2 : RelV v2 u2) (h : eqS .non (.tup y) = some k) : EqAt A s u1 u2 k := by
    obtain rfl := h1
    cases r1
    obtain ⟨a2, vs2, rfl, hz2, _, hs2⟩ := h2
    cases r2
    obtain ⟨its2, rv2, ht2, _⟩ := I.tuple (SqT.of (K := X.K) hz2)
    simp only [eqS, D.kind] at h
    cases h
    exact EqAt.none_tuple ht2 hu
theorem Eq_non_lst {y : List D} (I : Inv X pins σ H s) (hu : A.units < cLine) (h1 : Sh T H .non v1) (h2 : Sh T H (.lst y) v2) (r1 : RelV v1 u1) (r2 : RelV v2 u2) (h : eqS .non (.lst y) = some k) : EqAt A s u1 u2 k := by
    obtain rfl := h1
    cases r1
    obtain ⟨a2, vs2, rfl, hz2, _, hs2⟩ := h2
    cases r2
    obtain ⟨its2, rv2, ht02, _⟩ := I.list (SqL.of (K := X.K) hz2)
    have ht2 := ht02.isList
    simp only [eqS, D.kind] at h
    cases h
    exact EqAt.none_list ht2 hu
theorem Eq_bl_non {x : Bool} (I : Inv X pins σ H s) (hu : A.units < cLine) (h1 : Sh T H (.bl x) v1) (h2 : Sh T H .non v2) (r1 : RelV v1 u1) (r2 : RelV v2 u2) (h : eqS (.bl x) .non = some k) : EqAt A s u1 u2 k := by
    obtain rfl := h1
    cases r1
    obtain rfl := h2
    cases r2
    simp only [eqS, D.kind] at h
    cases h
    exact EqAt.bool_none x
theorem Eq_bl_bl {x : Bool} {y : Bool} (I : Inv X pins σ H s) (hu : A.units < cLine) (h1 : Sh T H (.bl x) v1) (h2 : Sh T H (.bl y) v2) (r1 : RelV v1 u1) (r2 : RelV v2 u2) (h : eqS (.bl x) (.bl y) = some k) : EqAt A s u1 u2 k := by
    obtain rfl := h1
    cases r1
    obtain rfl := h2
    cases r2
    simp only [eqS, D.kind] at h
    cases h
    exact EqAt.bool_bool x y
theorem Eq_bl_int {x : Bool} {y : Int} (I : Inv X pins σ H s) (hu : A.units < cLine) (h1 : Sh T H (.bl x) v1) (h2 : Sh T H (.int y) v2) (r1 : RelV v1 u1) (r2 : RelV v2 u2) (h : eqS (.bl x) (.int y) = some k) : EqAt A s u1 u2 k := by
    obtain rfl := h1
    cases r1
    obtain rfl := h2
    obtain ⟨t2, rfl⟩ := r2
    simp only [eqS, D.kind] at h
    cases h
    exact EqAt.bool_int x y _
theorem Eq_bl_str {x : Bool} {y : List Nat} (I : Inv X pins σ H s) (hu : A.units < cLine) (h1 : Sh T H (.bl x) v1) (h2 : Sh T H (.str y) v2) (r1 : RelV v1 u1) (r2 : RelV v2 u2) (h : eqS (.bl x) (.str y) = some k) : EqAt A s u1 u2 k := by
    obtain rfl := h1
    cases r1
    obtain ⟨rfl, _⟩ := h2
    obtain ⟨t2, rfl⟩ := r2
    simp only [eqS, D.kind] at h
    cases h
    exact EqAt.bool_str x _ _
theorem Eq_bl_tup {x : Bool} {y : List D} (I : Inv X pins σ H s) (hu : A.units < cLine) (h1 : Sh T H (.bl x) v1) (h2 : Sh T H (.tup y) v2) (r1 : RelV v1 u1) (r2 : RelV v2 u2) (h : eqS (.bl x) (.tup y) = some k) : EqAt A s u1 u2 k := by
    obtain rfl := h1
    cases r1
    obtain ⟨a2, vs2, rfl, hz2, _, hs2⟩ := h2
    cases r2
    obtain ⟨its2, rv2, ht2, _⟩ := I.tuple (SqT.of (K := X.K) hz2)
    simp only [eqS, D.kind] at h
    cases h
    exact EqAt.bool_tuple x ht2 hu
theorem Eq_bl_lst {x : Bool} {y : List D} (I : Inv X pins σ H s) (hu : A.units < cLine) (h1 : Sh T H (.bl x) v1) (h2 : Sh T H (.lst y) v2) (r1 : RelV v1 u1) (r2 : RelV v2 u2) (h : eqS (.bl x) (.lst y) = some k) : EqAt A s u1 u2 k := by
    obtain rfl := h1
    cases r1
    obtain ⟨a2, vs2, rfl, hz2, _, hs2⟩ := h2
    cases r2
    obtain ⟨its2, rv2, ht02, _⟩ := I.list (SqL.of (K := X.K) hz2)
    have ht2 := ht02.isList
    simp only [eqS, D.kind] at h
    cases h
    exact EqAt.bool_list x ht2 hu
theorem Eq_int_non {x : Int} (I : Inv X pins σ H s) (hu : A.units < cLine) (h1 : Sh T H (.int x) v1) (h2 : Sh T H .non v2) (r1 : RelV v1 u1) (r2 : RelV v2 u2) (h : eqS (.int x) .non = some k) : EqAt A s u1 u2 k := by
    obtain rfl := h1
    obtain ⟨t1, rfl⟩ := r1
    obtain rfl := h2
    cases r2
    simp only [eqS, D.kind] at h
    cases h
    exact EqAt.int_none x _
theorem Eq_int_bl {x : Int} {y : Bool} (I : Inv X pins σ H s) (hu : A.units < cLine) (h1 : Sh T H (.int x) v1) (h2 : Sh T H (.bl y) v2) (r1 : RelV v1 u1) (r2 : RelV v2 u2) (h : eqS (.int x) (.bl y) = some k) : EqAt A s u1 u2 k := by
    obtain rfl := h1
    obtain ⟨t1, rfl⟩ := r1
    obtain rfl := h2
    cases r2
    simp only [eqS, D.kind] at h
    cases h
    exact EqAt.int_bool x _ y
theorem Eq_int_int {x : Int} {y : Int} (I : Inv X pins σ H s) (hu : A.units < cLine) (h1 : Sh T H (.int x) v1) (h2 : Sh T H (.int y) v2) (r1 : RelV v1 u1) (r2 : RelV v2 u2) (h : eqS (.int x) (.int y) = some k) : EqAt A s u1 u2 k := by
    obtain rfl := h1
    obtain ⟨t1, rfl⟩ := r1
    obtain rfl := h2
    obtain ⟨t2, rfl⟩ := r2
    simp only [eqS, D.kind] at h
    cases h
    exact EqAt.int_int x _ y _
theorem Eq_int_str {x : Int} {y : List Nat} (I : Inv X pins σ H s) (hu : A.units < cLine) (h1 : Sh T H (.int x) v1) (h2 : Sh T H (.str y) v2) (r1 : RelV v1 u1) (r2 : RelV v2 u2) (h : eqS (.int x) (.str y) = some k) : EqAt A s u1 u2 k := by
    obtain rfl := h1
    obtain ⟨t1, rfl⟩ := r1
    obtain ⟨rfl, _⟩ := h2
    obtain ⟨t2, rfl⟩ := r2
    simp only [eqS, D.kind] at h
    cases h
    exact EqAt.int_str x _ _ _
theorem Eq_int_tup {x : Int} {y : List D} (I : Inv X pins σ H s) (hu : A.units < cLine) (h1 : Sh T H (.int x) v1) (h2 : Sh T H (.tup y) v2) (r1 : RelV v1 u1) (r2 : RelV v2 u2) (h : eqS (.int x) (.tup y) = some k) : EqAt A s u1 u2 k := by
    obtain rfl := h1
    obtain ⟨t1, rfl⟩ := r1
    obtain ⟨a2, vs2, rfl, hz2, _, hs2⟩ := h2
    cases r2
    obtain ⟨its2, rv2, ht2, _⟩ := I.tuple (SqT.of (K := X.K) hz2)
    simp only [eqS, D.kind] at h
    cases h
    exact EqAt.int_tuple x _ ht2 hu
theorem Eq_int_lst {x : Int} {y : List D} (I : Inv X pins σ H s) (hu : A.units < cLine) (h1 : Sh T H (.int x) v1) (h2 : Sh T H (.lst y) v2) (r1 : RelV v1 u1) (r2 : RelV v2 u2) (h : eqS (.int x) (.lst y) = some k) : EqAt A s u1 u2 k := by
    obtain rfl := h1
    obtain ⟨t1, rfl⟩ := r1
    obtain ⟨a2, vs2, rfl, hz2, _, hs2⟩ := h2
    cases r2
    obtain ⟨its2, rv2, ht02, _⟩ := I.list (SqL.of (K := X.K) hz2)
    have ht2 := ht02.isList
    simp only [eqS, D.kind] at h
    cases h
    exact EqAt.int_list x _ ht2 hu
theorem Eq_str_non {x : List Nat} (I : Inv X pins σ H s) (hu : A.units < cLine) (h1 : Sh T H (.str x) v1) (h2 : Sh T H .non v2) (r1 : RelV v1 u1) (r2 : RelV v2 u2) (h : eqS (.str x) .non = some k) : EqAt A s u1 u2 k := by
    obtain ⟨rfl, _⟩ := h1
    obtain ⟨t1, rfl⟩ := r1
    obtain rfl := h2
    cases r2
    simp only [eqS, D.kind] at h
    cases h
    exact EqAt.str_none _ _
theorem Eq_str_bl {x : List Nat} {y : Bool} (I : Inv X pins σ H s) (hu : A.units < cLine) (h1 : Sh T H (.str x) v1) (h2 : Sh T H (.bl y) v2) (r1 : RelV v1 u1) (r2 : RelV v2 u2) (h : eqS (.str x) (.bl y) = some k) : EqAt A s u1 u2 k := by
    obtain ⟨rfl, _⟩ := h1
    obtain ⟨t1, rfl⟩ := r1
    obtain rfl := h2
    cases r2
    simp only [eqS, D.kind] at h
    cases h
    exact EqAt.str_bool _ _ y
theorem Eq_str_int {x : List Nat} {y : Int} (I : Inv X pins σ H s) (hu : A.units < cLine) (h1 : Sh T H (.str x) v1) (h2 : Sh T H (.int y) v2) (r1 : RelV v1 u1) (r2 : RelV v2 u2) (h : eqS (.str x) (.int y) = some k) : EqAt A s u1 u2 k := by
    obtain ⟨rfl, _⟩ := h1
    obtain ⟨t1, rfl⟩ := r1
    obtain rfl := h2
    obtain ⟨t2, rfl⟩ := r2
    simp only [eqS, D.kind] at h
    cases h
    exact EqAt.str_int _ _ y _
theorem Eq_str_str {x : List Nat} {y : List Nat} (I : Inv X pins σ H s) (hu : A.units < cLine) (h1 : Sh T H (.str x) v1) (h2 : Sh T H (.str y) v2) (r1 : RelV v1 u1) (r2 : RelV v2 u2) (h : eqS (.str x) (.str y) = some k) : EqAt A s u1 u2 k := by
    obtain ⟨rfl, _⟩ := h1
    obtain ⟨t1, rfl⟩ := r1
    obtain ⟨rfl, _⟩ := h2
    obtain ⟨t2, rfl⟩ := r2
    simp only [eqS, D.kind] at h
    cases h
    have e : ((⟨x.toArray⟩ : Str) == ⟨y.toArray⟩) = (x == y) := str_beq x y
    rw [← e]
    exact EqAt.str_str _ _ _ _
theorem Eq_str_tup {x : List Nat} {y : List D} (I : Inv X pins σ H s) (hu : A.units < cLine) (h1 : Sh T H (.str x) v1) (h2 : Sh T H (.tup y) v2) (r1 : RelV v1 u1) (r2 : RelV v2 u2) (h : eqS (.str x) (.tup y) = some k) : EqAt A s u1 u2 k := by
    obtain ⟨rfl, _⟩ := h1
    obtain ⟨t1, rfl⟩ := r1
    obtain ⟨a2, vs2, rfl, hz2, _, hs2⟩ := h2
    cases r2
    obtain ⟨its2, rv2, ht2, _⟩ := I.tuple (SqT.of (K := X.K) hz2)
    simp only [eqS, D.kind] at h
    cases h
    exact EqAt.str_tuple _ _ ht2 hu
theorem Eq_str_lst {x : List Nat} {y : List D} (I : Inv X pins σ H s) (hu : A.units < cLine) (h1 : Sh T H (.str x) v1) (h2 : Sh T H (.lst y) v2) (r1 : RelV v1 u1) (r2 : RelV v2 u2) (h : eqS (.str x) (.lst y) = some k) : EqAt A s u1 u2 k := by
    obtain ⟨rfl, _⟩ := h1
    obtain ⟨t1, rfl⟩ := r1
    obtain ⟨a2, vs2, rfl, hz2, _, hs2⟩ := h2
    cases r2
    obtain ⟨its2, rv2, ht02, _⟩ := I.list (SqL.of (K := X.K) hz2)
    have ht2 := ht02.isList
    simp only [eqS, D.kind] at h
    cases h
    exact EqAt.str_list _ _ ht2 hu
theorem Eq_tup_non {x : List D} (I : Inv X pins σ H s) (hu : A.units < cLine) (h1 : Sh T H (.tup x) v1) (h2 : Sh T H .non v2) (r1 : RelV v1 u1) (r2 : RelV v2 u2) (h : eqS (.tup x) .non = some k) : EqAt A s u1 u2 k := by
    obtain ⟨a1, vs1, rfl, hz1, _, hs1⟩ := h1
    cases r1
    obtain ⟨its1, rv1, ht1, _⟩ := I.tuple (SqT.of (K := X.K) hz1)
    obtain rfl := h2
    cases r2
    simp only [eqS, D.kind] at h
    cases h
    exact EqAt.tuple_none ht1 hu
theorem Eq_tup_bl {x : List D} {y : Bool} (I : Inv X pins σ H s) (hu : A.units < cLine) (h1 : Sh T H (.tup x) v1) (h2 : Sh T H (.bl y) v2) (r1 : RelV v1 u1) (r2 : RelV v2 u2) (h : eqS (.tup x) (.bl y) = some k) : EqAt A s u1 u2 k := by
    obtain ⟨a1, vs1, rfl, hz1, _, hs1⟩ := h1
    cases r1
    obtain ⟨its1, rv1, ht1, _⟩ := I.tuple (SqT.of (K := X.K) hz1)
    obtain rfl := h2
    cases r2
    simp only [eqS, D.kind] at h
    cases h
    exact EqAt.tuple_bool y ht1 hu
theorem Eq_tup_int {x : List D} {y : Int} (I : Inv X pins σ H s) (hu : A.units < cLine) (h1 : Sh T H (.tup x) v1) (h2 : Sh T H (.int y) v2) (r1 : RelV v1 u1) (r2 : RelV v2 u2) (h : eqS (.tup x) (.int y) = some k) : EqAt A s u1 u2 k := by
    obtain ⟨a1, vs1, rfl, hz1, _, hs1⟩ := h1
    cases r1
    obtain ⟨its1, rv1, ht1, _⟩ := I.tuple (SqT.of (K := X.K) hz1)
    obtain rfl := h2
    obtain ⟨t2, rfl⟩ := r2
    simp only [eqS, D.kind] at h
    cases h
    exact EqAt.tuple_int y _ ht1 hu
theorem Eq_tup_str {x : List D} {y : List Nat} (I : Inv X pins σ H s) (hu : A.units < cLine) (h1 : Sh T H (.tup x) v1) (h2 : Sh T H (.str y) v2) (r1 : RelV v1 u1) (r2 : RelV v2 u2) (h : eqS (.tup x) (.str y) = some k) : EqAt A s u1 u2 k := by
    obtain ⟨a1, vs1, rfl, hz1, _, hs1⟩ := h1
    cases r1
    obtain ⟨its1, rv1, ht1, _⟩ := I.tuple (SqT.of (K := X.K) hz1)
    obtain ⟨rfl, _⟩ := h2
    obtain ⟨t2, rfl⟩ := r2
    simp only [eqS, D.kind] at h
    cases h
    exact EqAt.tuple_str _ _ ht1 hu
theorem Eq_tup_lst {x : List D} {y : List D} (I : Inv X pins σ H s) (hu : A.units < cLine) (h1 : Sh T H (.tup x) v1) (h2 : Sh T H (.lst y) v2) (r1 : RelV v1 u1) (r2 : RelV v2 u2) (h : eqS (.tup x) (.lst y) = some k) : EqAt A s u1 u2 k := by
    obtain ⟨a1, vs1, rfl, hz1, _, hs1⟩ := h1
    cases r1
    obtain ⟨its1, rv1, ht1, _⟩ := I.tuple (SqT.of (K := X.K) hz1)
    obtain ⟨a2, vs2, rfl, hz2, _, hs2⟩ := h2
    cases r2
    obtain ⟨its2, rv2, ht02, _⟩ := I.list (SqL.of (K := X.K) hz2)
    have ht2 := ht02.isList
    simp only [eqS, D.kind] at h
    cases h
    exact EqAt.tuple_list ht1 ht2 hu
theorem Eq_lst_non {x : List D} (I : Inv X pins σ H s) (hu : A.units < cLine) (h1 : Sh T H (.lst x) v1) (h2 : Sh T H .non v2) (r1 : RelV v1 u1) (r2 : RelV v2 u2) (h : eqS (.lst x) .non = some k) : EqAt A s u1 u2 k := by
    obtain ⟨a1, vs1, rfl, hz1, _, hs1⟩ := h1
    cases r1
    obtain ⟨its1, rv1, ht01, _⟩ := I.list (SqL.of (K := X.K) hz1)
    have ht1 := ht01.isList
    obtain rfl := h2
    cases r2
    simp only [eqS, D.kind] at h
    cases h
    exact EqAt.list_none ht1 hu
theorem Eq_lst_bl {x : List D} {y : Bool} (I : Inv X pins σ H s) (hu : A.units < cLine) (h1 : Sh T H (.lst x) v1) (h2 : Sh T H (.bl y) v2) (r1 : RelV v1 u1) (r2 : RelV v2 u2) (h : eqS (.lst x) (.bl y) = some k) : EqAt A s u1 u2 k := by
    obtain ⟨a1, vs1, rfl, hz1, _, hs1⟩ := h1
    cases r1
    obtain ⟨its1, rv1, ht01, _⟩ := I.list (SqL.of (K := X.K) hz1)
    have ht1 := ht01.isList
    obtain rfl := h2
    cases r2
    simp only [eqS, D.kind] at h
    cases h
    exact EqAt.list_bool y ht1 hu
theorem Eq_lst_int {x : List D} {y : Int} (I : Inv X pins σ H s) (hu : A.units < cLine) (h1 : Sh T H (.lst x) v1) (h2 : Sh T H (.int y) v2) (r1 : RelV v1 u1) (r2 : RelV v2 u2) (h : eqS (.lst x) (.int y) = some k) : EqAt A s u1 u2 k := by
    obtain ⟨a1, vs1, rfl, hz1, _, hs1⟩ := h1
    cases r1
    obtain ⟨its1, rv1, ht01, _⟩ := I.list (SqL.of (K := X.K) hz1)
    have ht1 := ht01.isList
    obtain rfl := h2
    obtain ⟨t2, rfl⟩ := r2
    simp only [eqS, D.kind] at h
    cases h
    exact EqAt.list_int y _ ht1 hu
theorem Eq_lst_str {x : List D} {y : List Nat} (I : Inv X pins σ H s) (hu : A.units < cLine) (h1 : Sh T H (.lst x) v1) (h2 : Sh T H (.str y) v2) (r1 : RelV v1 u1) (r2 : RelV v2 u2) (h : eqS (.lst x) (.str y) = some k) : EqAt A s u1 u2 k := by
    obtain ⟨a1, vs1, rfl, hz1, _, hs1⟩ := h1
    cases r1
    obtain ⟨its1, rv1, ht01, _⟩ := I.list (SqL.of (K := X.K) hz1)
    have ht1 := ht01.isList
    obtain ⟨rfl, _⟩ := h2
    obtain ⟨t2, rfl⟩ := r2
    simp only [eqS, D.kind] at h
    cases h
    exact EqAt.list_str _ _ ht1 hu
theorem Eq_lst_tup {x : List D} {y : List D} (I : Inv X pins σ H s) (hu : A.units < cLine) (h1 : Sh T H (.lst x) v1) (h2 : Sh T H (.tup y) v2) (r1 : RelV v1 u1) (r2 : RelV v2 u2) (h : eqS (.lst x) (.tup y) = some k) : EqAt A s u1 u2 k := by
    obtain ⟨a1, vs1, rfl, hz1, _, hs1⟩ := h1
    cases r1
    obtain ⟨its1, rv1, ht01, _⟩ := I.list (SqL.of (K := X.K) hz1)
    have ht1 := ht01.isList
    obtain ⟨a2, vs2, rfl, hz2, _, hs2⟩ := h2
    cases r2
    obtain ⟨its2, rv2, ht2, _⟩ := I.tuple (SqT.of (K := X.K) hz2)
    simp only [eqS, D.kind] at h
    cases h
    exact EqAt.list_tuple ht1 ht2 hu
end
end Wc
namespace Wc
open PySem L2 PySem.SeqAt MeetsSeq MeetsSeq2 MeetsSeq3
open AutoSeq1 (wpAny_loadPart')
def DicO (o : Obj) : Prop := o.cls = .type "dict" ∧ ∃ es ep, o.data = .dict es ep
theorem dict_eq_dec {P : Program} {w : World} {A : Around} {E : Value → Shared → Prop} {s : Shared} {a : Addr} {v : Value} {Ty : String} {Q : Value → Shared → Prop} (ha : s.TypeIs (.ref a) "dict") (hv : s.TypeIs v Ty) (hs : isSubtype (.type Ty) (.type "dict") = pure false) (h : Q .notImplemented s) :
    wpAny (model P w) A (call (.builtin "dict.__eq__") [.ref a, v]) Q E s := by
  refine wpAny_call_entry PySem.F.slot_dict_eq ha PySem.F.entry_dict_eq ?_ (PySem.F.args_dict_eq_2 _ _)
  show wpAny _ _ (Builtin.Dict.dictSlotArgs "__eq__" ⟨[.ref a, v], []⟩ >>= _) _ _ s
  refine wpAny_bind ?_
  unfold Builtin.Dict.dictSlotArgs
  refine wpAny_bind (wpAny_notOrdered_dict ha ?_)
  show wpAny _ _ (pure (Value.ref a, v)) _ _ s
  refine wpAny_pure ?_
  refine wpAny_bind (wpAny_isInstance hv hs ?_)
  simp only [Bool.not_false, if_true]
  exact wpAny_bind (wpAny_rule (wpAny_pure ⟨_, rfl, h⟩))
theorem int_bool_eq_dic (b : Bool) (l : Addr) (ob : Obj) :
    Meets (Builtin.«int.__eq__» ⟨[.bool b, .ref l], []⟩) (fun _ R s => s.heap.get? l = some ob ∧ DicO ob ∧ R (.ok (.ret .notImplemented)) s) :=
  .of_wp fun prog w A R s h => by obtain ⟨hp, g, d, tk, os⟩ := s; obtain ⟨hl, hc, h⟩ := h; obtain ⟨cls, dd, dt, sl⟩ := ob; obtain ⟨hc, es, ep, hz⟩ := hc; simp only at hc hz; subst hc hz; wp_walk using wpAny_loadPart' hl, wpAny_load hl; exact ⟨_, rfl, h⟩
theorem int_int_eq_dic (b : Int) (u : Tok) (l : Addr) (ob : Obj) :
    Meets (Builtin.«int.__eq__» ⟨[.int b u, .ref l], []⟩) (fun _ R s => s.heap.get? l = some ob ∧ DicO ob ∧ R (.ok (.ret .notImplemented)) s) :=
  .of_wp fun prog w A R s h => by obtain ⟨hp, g, d, tk, os⟩ := s; obtain ⟨hl, hc, h⟩ := h; obtain ⟨cls, dd, dt, sl⟩ := ob; obtain ⟨hc, es, ep, hz⟩ := hc; simp only at hc hz; subst hc hz; wp_walk using wpAny_loadPart' hl, wpAny_load hl; exact ⟨_, rfl, h⟩
theorem str_str_eq_dic (b : Str) (u : Tok) (l : Addr) (ob : Obj) :
    Meets (Builtin.«str.__eq__» ⟨[.str b u, .ref l], []⟩) (fun _ R s => s.heap.get? l = some ob ∧ DicO ob ∧ R (.ok (.ret .notImplemented)) s) :=
  .of_wp fun prog w A R s h => by obtain ⟨hp, g, d, tk, os⟩ := s; obtain ⟨hl, hc, h⟩ := h; obtain ⟨cls, dd, dt, sl⟩ := ob; obtain ⟨hc, es, ep, hz⟩ := hc; simp only at hc hz; subst hc hz; wp_walk using wpAny_loadPart' hl, wpAny_load hl; exact ⟨_, rfl, h⟩
theorem list_eq_dic (l b : Addr) (items : Array Value) (n : Nat) (dd : Option Addr) (sl : Array (Option Value)) (ob : Obj) :
    Meets (Builtin.«list.__eq__» ⟨[.ref l, .ref b], []⟩) (fun _ R s => s.heap.get? l = some { cls := .type "list", dict := dd, data := .seq items n, slots := sl } ∧ s.heap.get? b = some ob ∧ DicO ob ∧ R (.ok (.ret .notImplemented)) s) :=
  .of_wp fun prog w A R s h => by obtain ⟨hp, g, d, tk, os⟩ := s; obtain ⟨hl, hb, hc, h⟩ := h; obtain ⟨cls, dd2, dt, sl2⟩ := ob; obtain ⟨hc, es, ep, hz⟩ := hc; simp only at hc hz; subst hc hz; have f1 := PySem.F.sub_dict_list; wp_walk using wpAny_loadPart' hl, wpAny_loadPart' hb; exact ⟨_, rfl, h⟩
theorem tuple_eq_dic (l b : Addr) (items : Array Value) (n : Nat) (dd : Option Addr) (sl : Array (Option Value)) (ob : Obj) :
    Meets (Builtin.«tuple.__eq__» ⟨[.ref l, .ref b], []⟩) (fun _ R s => s.heap.get? l = some { cls := .type "tuple", dict := dd, data := .seq items n, slots := sl } ∧ s.heap.get? b = some ob ∧ DicO ob ∧ R (.ok (.ret .notImplemented)) s) :=
  .of_wp fun prog w A R s h => by obtain ⟨hp, g, d, tk, os⟩ := s; obtain ⟨hl, hb, hc, h⟩ := h; obtain ⟨cls, dd2, dt, sl2⟩ := ob; obtain ⟨hc, es, ep, hz⟩ := hc; simp only at hc hz; subst hc hz; have f1 := PySem.F.sub_dict_tuple; wp_walk using wpAny_loadPart' hl, wpAny_loadPart' hb; exact ⟨_, rfl, h⟩
theorem dict_ne_dec {P : Program} {w : World} {A : Around} {E : Value → Shared → Prop} {s : Shared} {a : Addr} {v : Value} {Ty : String} {Q : Value → Shared → Prop} (ha : s.TypeIs (.ref a) "dict") (hv : s.TypeIs v Ty) (hs : isSubtype (.type Ty) (.type "dict") = pure false) (h : Q .notImplemented s) :
    wpAny (model P w) A (call (.builtin "dict.__ne__") [.ref a, v]) Q E s := by
  refine wpAny_call_entry PySem.F.slot_dict_ne ha PySem.F.entry_dict_ne ?_ (PySem.F.args_dict_ne_2 _ _)
  show wpAny _ _ (Builtin.Dict.dictSlotArgs "__ne__" ⟨[.ref a, v], []⟩ >>= _) _ _ s
  refine wpAny_bind ?_
  unfold Builtin.Dict.dictSlotArgs
  refine wpAny_bind (wpAny_notOrdered_dict ha ?_)
  show wpAny _ _ (pure (Value.ref a, v)) _ _ s
  refine wpAny_pure ?_
  refine wpAny_bind (wpAny_isInstance hv hs ?_)
  simp only [Bool.not_false, if_true]
  exact wpAny_bind (wpAny_rule (wpAny_pure ⟨_, rfl, h⟩))
theorem int_bool_ne_dic (b : Bool) (l : Addr) (ob : Obj) :
    Meets (Builtin.«int.__ne__» ⟨[.bool b, .ref l], []⟩) (fun _ R s => s.heap.get? l = some ob ∧ DicO ob ∧ R (.ok (.ret .notImplemented)) s) :=
  .of_wp fun prog w A R s h => by obtain ⟨hp, g, d, tk, os⟩ := s; obtain ⟨hl, hc, h⟩ := h; obtain ⟨cls, dd, dt, sl⟩ := ob; obtain ⟨hc, es, ep, hz⟩ := hc; simp only at hc hz; subst hc hz; wp_walk using wpAny_loadPart' hl, wpAny_load hl; exact ⟨_, rfl, h⟩
theorem int_int_ne_dic (b : Int) (u : Tok) (l : Addr) (ob : Obj) :
    Meets (Builtin.«int.__ne__» ⟨[.int b u, .ref l], []⟩) (fun _ R s => s.heap.get? l = some ob ∧ DicO ob ∧ R (.ok (.ret .notImplemented)) s) :=
  .of_wp fun prog w A R s h => by obtain ⟨hp, g, d, tk, os⟩ := s; obtain ⟨hl, hc, h⟩ := h; obtain ⟨cls, dd, dt, sl⟩ := ob; obtain ⟨hc, es, ep, hz⟩ := hc; simp only at hc hz; subst hc hz; wp_walk using wpAny_loadPart' hl, wpAny_load hl; exact ⟨_, rfl, h⟩
theorem str_str_ne_dic (b : Str) (u : Tok) (l : Addr) (ob : Obj) :
    Meets (Builtin.«str.__ne__» ⟨[.str b u, .ref l], []⟩) (fun _ R s => s.heap.get? l = some ob ∧ DicO ob ∧ R (.ok (.ret .notImplemented)) s) :=
  .of_wp fun prog w A R s h => by obtain ⟨hp, g, d, tk, os⟩ := s; obtain ⟨hl, hc, h⟩ := h; obtain ⟨cls, dd, dt, sl⟩ := ob; obtain ⟨hc, es, ep, hz⟩ := hc; simp only at hc hz; subst hc hz; wp_walk using wpAny_loadPart' hl, wpAny_load hl; exact ⟨_, rfl, h⟩
theorem list_ne_dic (l b : Addr) (items : Array Value) (n : Nat) (dd : Option Addr) (sl : Array (Option Value)) (ob : Obj) :
    Meets (Builtin.«list.__ne__» ⟨[.ref l, .ref b], []⟩) (fun _ R s => s.heap.get? l = some { cls := .type "list", dict := dd, data := .seq items n, slots := sl } ∧ s.heap.get? b = some ob ∧ DicO ob ∧ R (.ok (.ret .notImplemented)) s) :=
  .of_wp fun prog w A R s h => by obtain ⟨hp, g, d, tk, os⟩ := s; obtain ⟨hl, hb, hc, h⟩ := h; obtain ⟨cls, dd2, dt, sl2⟩ := ob; obtain ⟨hc, es, ep, hz⟩ := hc; simp only at hc hz; subst hc hz; have f1 := PySem.F.sub_dict_list; wp_walk using wpAny_loadPart' hl, wpAny_loadPart' hb; exact ⟨_, rfl, h⟩
theorem tuple_ne_dic (l b : Addr) (items : Array Value) (n : Nat) (dd : Option Addr) (sl : Array (Option Value)) (ob : Obj) :
    Meets (Builtin.«tuple.__ne__» ⟨[.ref l, .ref b], []⟩) (fun _ R s => s.heap.get? l = some { cls := .type "tuple", dict := dd, data := .seq items n, slots := sl } ∧ s.heap.get? b = some ob ∧ DicO ob ∧ R (.ok (.ret .notImplemented)) s) :=
  .of_wp fun prog w A R s h => by obtain ⟨hp, g, d, tk, os⟩ := s; obtain ⟨hl, hb, hc, h⟩ := h; obtain ⟨cls, dd2, dt, sl2⟩ := ob; obtain ⟨hc, es, ep, hz⟩ := hc; simp only at hc hz; subst hc hz; have f1 := PySem.F.sub_dict_tuple; wp_walk using wpAny_loadPart' hl, wpAny_loadPart' hb; exact ⟨_, rfl, h⟩
section
variable {A : Around} {s : Shared}
theorem RcAt_dic_non {d : Addr} {od : Obj}  (hd : s.heap.get? d = some od) (hc : DicO od) (hu : A.units < cLine) : RcAt A s (.ref d) .none false := fun prog w E Q h =>
  rc_eq_decline_or (k := false) ⟨_, hd, hc.1⟩ rfl (by decide) F.sub_NoneType_dict F.slot_dict_eq F.slot_NoneType_eq_refl
    (fun _ hq => dict_eq_dec ⟨_, hd, hc.1⟩ rfl F.sub_NoneType_dict hq)
    (fun _ hq => call_gives F.slot_NoneType_eq_refl rfl F.entry_NoneType_eq (F.args_NoneType_eq_2 _ _) (NoneType___eq___none_ref_0 d) hq)
    (fun _ hq => wpAny_of_eq (rfl : isSame (.ref d) .none = pure false) hq) (.inr hu) h
theorem RcAt_non_dic {d : Addr} {od : Obj}  (hd : s.heap.get? d = some od) (hc : DicO od) (hu : A.units < cLine) : RcAt A s .none (.ref d) false := fun prog w E Q h =>
  rc_eq_decline_or (k := false) rfl ⟨_, hd, hc.1⟩ (by decide) F.sub_dict_NoneType F.slot_NoneType_eq F.slot_dict_eq_refl
    (fun _ hq => call_gives F.slot_NoneType_eq rfl F.entry_NoneType_eq (F.args_NoneType_eq_2 _ _) (NoneType___eq___none_ref_0 d) hq)
    (fun _ hq => dict_eq_dec ⟨_, hd, hc.1⟩ rfl F.sub_NoneType_dict hq)
    (fun _ hq => wpAny_of_eq (rfl : isSame .none (.ref d) = pure false) hq) (.inr hu) h
theorem RcAt_dic_bl {d : Addr} {od : Obj} (b : Bool) (hd : s.heap.get? d = some od) (hc : DicO od) (hu : A.units < cLine) : RcAt A s (.ref d) (.bool b) false := fun prog w E Q h =>
  rc_eq_decline_or (k := false) ⟨_, hd, hc.1⟩ rfl (by decide) F.sub_bool_dict F.slot_dict_eq F.slot_bool_eq_refl
    (fun _ hq => dict_eq_dec ⟨_, hd, hc.1⟩ rfl F.sub_bool_dict hq)
    (fun _ hq => call_meets F.slot_bool_eq_refl rfl F.entry_int_eq (F.args_int_eq_2 _ _) (int_bool_eq_dic b d od) ⟨hd, hc, hq⟩)
    (fun _ hq => wpAny_of_eq (rfl : isSame (.ref d) (.bool b) = pure false) hq) (.inr hu) h
theorem RcAt_bl_dic {d : Addr} {od : Obj} (b : Bool) (hd : s.heap.get? d = some od) (hc : DicO od) (hu : A.units < cLine) : RcAt A s (.bool b) (.ref d) false := fun prog w E Q h =>
  rc_eq_decline_or (k := false) rfl ⟨_, hd, hc.1⟩ (by decide) F.sub_dict_bool F.slot_bool_eq F.slot_dict_eq_refl
    (fun _ hq => call_meets F.slot_bool_eq rfl F.entry_int_eq (F.args_int_eq_2 _ _) (int_bool_eq_dic b d od) ⟨hd, hc, hq⟩)
    (fun _ hq => dict_eq_dec ⟨_, hd, hc.1⟩ rfl F.sub_bool_dict hq)
    (fun _ hq => wpAny_of_eq (rfl : isSame (.bool b) (.ref d) = pure false) hq) (.inr hu) h
theorem RcAt_dic_int {d : Addr} {od : Obj} (b : Int) (u : Tok) (hd : s.heap.get? d = some od) (hc : DicO od) (hu : A.units < cLine) : RcAt A s (.ref d) (.int b u) false := fun prog w E Q h =>
  rc_eq_decline_or (k := false) ⟨_, hd, hc.1⟩ (typeIs_int s b u) (by decide) F.sub_int_dict F.slot_dict_eq F.slot_int_eq_refl
    (fun _ hq => dict_eq_dec ⟨_, hd, hc.1⟩ (typeIs_int s b u) F.sub_int_dict hq)
    (fun _ hq => call_meets F.slot_int_eq_refl (typeIs_int s b u) F.entry_int_eq (F.args_int_eq_2 _ _) (int_int_eq_dic b u d od) ⟨hd, hc, hq⟩)
    (fun _ hq => wpAny_of_eq (rfl : isSame (.ref d) (.int b u) = pure false) hq) (.inr hu) h
theorem RcAt_int_dic {d : Addr} {od : Obj} (b : Int) (u : Tok) (hd : s.heap.get? d = some od) (hc : DicO od) (hu : A.units < cLine) : RcAt A s (.int b u) (.ref d) false := fun prog w E Q h =>
  rc_eq_decline_or (k := false) (typeIs_int s b u) ⟨_, hd, hc.1⟩ (by decide) F.sub_dict_int F.slot_int_eq F.slot_dict_eq_refl
    (fun _ hq => call_meets F.slot_int_eq (typeIs_int s b u) F.entry_int_eq (F.args_int_eq_2 _ _) (int_int_eq_dic b u d od) ⟨hd, hc, hq⟩)
    (fun _ hq => dict_eq_dec ⟨_, hd, hc.1⟩ (typeIs_int s b u) F.sub_int_dict hq)
    (fun _ hq => wpAny_of_eq (rfl : isSame (.int b u) (.ref d) = pure false) hq) (.inr hu) h
theorem RcAt_dic_str {d : Addr} {od : Obj} (b : Str) (u : Tok) (hd : s.heap.get? d = some od) (hc : DicO od) (hu : A.units < cLine) : RcAt A s (.ref d) (.str b u) false := fun prog w E Q h =>
  rc_eq_decline_or (k := false) ⟨_, hd, hc.1⟩ (typeIs_str s b u) (by decide) F.sub_str_dict F.slot_dict_eq F.slot_str_eq_refl
    (fun _ hq => dict_eq_dec ⟨_, hd, hc.1⟩ (typeIs_str s b u) F.sub_str_dict hq)
    (fun _ hq => call_meets F.slot_str_eq_refl (typeIs_str s b u) F.entry_str_eq (F.args_str_eq_2 _ _) (str_str_eq_dic b u d od) ⟨hd, hc, hq⟩)
    (fun _ hq => wpAny_of_eq (rfl : isSame (.ref d) (.str b u) = pure false) hq) (.inr hu) h
theorem RcAt_str_dic {d : Addr} {od : Obj} (b : Str) (u : Tok) (hd : s.heap.get? d = some od) (hc : DicO od) (hu : A.units < cLine) : RcAt A s (.str b u) (.ref d) false := fun prog w E Q h =>
  rc_eq_decline_or (k := false) (typeIs_str s b u) ⟨_, hd, hc.1⟩ (by decide) F.sub_dict_str F.slot_str_eq F.slot_dict_eq_refl
    (fun _ hq => call_meets F.slot_str_eq (typeIs_str s b u) F.entry_str_eq (F.args_str_eq_2 _ _) (str_str_eq_dic b u d od) ⟨hd, hc, hq⟩)
    (fun _ hq => dict_eq_dec ⟨_, hd, hc.1⟩ (typeIs_str s b u) F.sub_str_dict hq)
    (fun _ hq => wpAny_of_eq (rfl : isSame (.str b u) (.ref d) = pure false) hq) (.inr hu) h
theorem RcAt_dic_lst {d l : Addr} {od : Obj} {items : Array Value} (hd : s.heap.get? d = some od) (hc : DicO od) (hl : s.heap.IsList l items) (hu : A.units < cLine) : RcAt A s (.ref d) (.ref l) false := fun prog w E Q h => by
  obtain ⟨⟨cls, dd, data, sl⟩, ho, hcl, n, hda⟩ := id hl
  simp only at hcl hda
  subst hcl hda
  have hne : d ≠ l := fun q => by subst q; rw [hd] at ho; cases ho; exact absurd hc.1 (by simp)
  exact (rc_eq_decline_or (k := false) ⟨_, hd, hc.1⟩ ⟨_, ho, rfl⟩ (by decide) F.sub_list_dict F.slot_dict_eq F.slot_list_eq_refl
    (fun _ hq => dict_eq_dec ⟨_, hd, hc.1⟩ ⟨_, ho, rfl⟩ F.sub_list_dict hq)
    (fun _ hq => call_meets F.slot_list_eq_refl ⟨_, ho, rfl⟩ F.entry_list_eq (F.args_list_eq_2 _ _) (list_eq_dic l d items n dd sl od) ⟨ho, hd, hc, hq⟩)
    (fun _ hq => wpAny_isSame_ref_other hne hd ho (by rw [hc.1]; simp) hq) (.inr hu) h)
theorem RcAt_lst_dic {d l : Addr} {od : Obj} {items : Array Value} (hd : s.heap.get? d = some od) (hc : DicO od) (hl : s.heap.IsList l items) (hu : A.units < cLine) : RcAt A s (.ref l) (.ref d) false := fun prog w E Q h => by
  obtain ⟨⟨cls, dd, data, sl⟩, ho, hcl, n, hda⟩ := id hl
  simp only at hcl hda
  subst hcl hda
  have hne : l ≠ d := fun q => by subst q; rw [hd] at ho; cases ho; exact absurd hc.1 (by simp)
  exact (rc_eq_decline_or (k := false) ⟨_, ho, rfl⟩ ⟨_, hd, hc.1⟩ (by decide) F.sub_dict_list F.slot_list_eq F.slot_dict_eq_refl
    (fun _ hq => call_meets F.slot_list_eq ⟨_, ho, rfl⟩ F.entry_list_eq (F.args_list_eq_2 _ _) (list_eq_dic l d items n dd sl od) ⟨ho, hd, hc, hq⟩)
    (fun _ hq => dict_eq_dec ⟨_, hd, hc.1⟩ ⟨_, ho, rfl⟩ F.sub_list_dict hq)
    (fun _ hq => wpAny_isSame_ref_other' hne ho hd (by rw [hc.1]; simp) hq) (.inr hu) h)
theorem RcAt_dic_tup {d l : Addr} {od : Obj} {items : Array Value} (hd : s.heap.get? d = some od) (hc : DicO od) (hl : s.heap.IsTuple l items) (hu : A.units < cLine) : RcAt A s (.ref d) (.ref l) false := fun prog w E Q h => by
  obtain ⟨⟨cls, dd, data, sl⟩, ho, hcl, n, hda⟩ := id hl
  simp only at hcl hda
  subst hcl hda
  have hne : d ≠ l := fun q => by subst q; rw [hd] at ho; cases ho; exact absurd hc.1 (by simp)
  exact (rc_eq_decline_or (k := false) ⟨_, hd, hc.1⟩ ⟨_, ho, rfl⟩ (by decide) F.sub_tuple_dict F.slot_dict_eq F.slot_tuple_eq_refl
    (fun _ hq => dict_eq_dec ⟨_, hd, hc.1⟩ ⟨_, ho, rfl⟩ F.sub_tuple_dict hq)
    (fun _ hq => call_meets F.slot_tuple_eq_refl ⟨_, ho, rfl⟩ F.entry_tuple_eq (F.args_tuple_eq_2 _ _) (tuple_eq_dic l d items n dd sl od) ⟨ho, hd, hc, hq⟩)
    (fun _ hq => wpAny_isSame_ref_other hne hd ho (by rw [hc.1]; simp) hq) (.inr hu) h)
theorem RcAt_tup_dic {d l : Addr} {od : Obj} {items : Array Value} (hd : s.heap.get? d = some od) (hc : DicO od) (hl : s.heap.IsTuple l items) (hu : A.units < cLine) : RcAt A s (.ref l) (.ref d) false := fun prog w E Q h => by
  obtain ⟨⟨cls, dd, data, sl⟩, ho, hcl, n, hda⟩ := id hl
  simp only at hcl hda
  subst hcl hda
  have hne : l ≠ d := fun q => by subst q; rw [hd] at ho; cases ho; exact absurd hc.1 (by simp)
  exact (rc_eq_decline_or (k := false) ⟨_, ho, rfl⟩ ⟨_, hd, hc.1⟩ (by decide) F.sub_dict_tuple F.slot_tuple_eq F.slot_dict_eq_refl
    (fun _ hq => call_meets F.slot_tuple_eq ⟨_, ho, rfl⟩ F.entry_tuple_eq (F.args_tuple_eq_2 _ _) (tuple_eq_dic l d items n dd sl od) ⟨ho, hd, hc, hq⟩)
    (fun _ hq => dict_eq_dec ⟨_, hd, hc.1⟩ ⟨_, ho, rfl⟩ F.sub_tuple_dict hq)
    (fun _ hq => wpAny_isSame_ref_other' hne ho hd (by rw [hc.1]; simp) hq) (.inr hu) h)
theorem RcNeAt_dic_non {d : Addr} {od : Obj}  (hd : s.heap.get? d = some od) (hc : DicO od) (hu : A.units < cLine) : RcNeAt A s (.ref d) .none true := fun prog w E Q h =>
  rc_ne_decline_or (k := false) ⟨_, hd, hc.1⟩ rfl (by decide) F.sub_NoneType_dict F.slot_dict_ne F.slot_NoneType_ne_refl
    (fun _ hq => dict_ne_dec ⟨_, hd, hc.1⟩ rfl F.sub_NoneType_dict hq)
    (fun _ hq => call_gives F.slot_NoneType_ne_refl rfl F.entry_NoneType_ne (F.args_NoneType_ne_2 _ _) (NoneType___ne___none_ref_0 d) hq)
    (fun _ hq => wpAny_of_eq (rfl : isSame (.ref d) .none = pure false) hq) (.inr hu) h
theorem RcNeAt_non_dic {d : Addr} {od : Obj}  (hd : s.heap.get? d = some od) (hc : DicO od) (hu : A.units < cLine) : RcNeAt A s .none (.ref d) true := fun prog w E Q h =>
  rc_ne_decline_or (k := false) rfl ⟨_, hd, hc.1⟩ (by decide) F.sub_dict_NoneType F.slot_NoneType_ne F.slot_dict_ne_refl
    (fun _ hq => call_gives F.slot_NoneType_ne rfl F.entry_NoneType_ne (F.args_NoneType_ne_2 _ _) (NoneType___ne___none_ref_0 d) hq)
    (fun _ hq => dict_ne_dec ⟨_, hd, hc.1⟩ rfl F.sub_NoneType_dict hq)
    (fun _ hq => wpAny_of_eq (rfl : isSame .none (.ref d) = pure false) hq) (.inr hu) h
theorem RcNeAt_dic_bl {d : Addr} {od : Obj} (b : Bool) (hd : s.heap.get? d = some od) (hc : DicO od) (hu : A.units < cLine) : RcNeAt A s (.ref d) (.bool b) true := fun prog w E Q h =>
  rc_ne_decline_or (k := false) ⟨_, hd, hc.1⟩ rfl (by decide) F.sub_bool_dict F.slot_dict_ne F.slot_bool_ne_refl
    (fun _ hq => dict_ne_dec ⟨_, hd, hc.1⟩ rfl F.sub_bool_dict hq)
    (fun _ hq => call_meets F.slot_bool_ne_refl rfl F.entry_int_ne (F.args_int_ne_2 _ _) (int_bool_ne_dic b d od) ⟨hd, hc, hq⟩)
    (fun _ hq => wpAny_of_eq (rfl : isSame (.ref d) (.bool b) = pure false) hq) (.inr hu) h
theorem RcNeAt_bl_dic {d : Addr} {od : Obj} (b : Bool) (hd : s.heap.get? d = some od) (hc : DicO od) (hu : A.units < cLine) : RcNeAt A s (.bool b) (.ref d) true := fun prog w E Q h =>
  rc_ne_decline_or (k := false) rfl ⟨_, hd, hc.1⟩ (by decide) F.sub_dict_bool F.slot_bool_ne F.slot_dict_ne_refl
    (fun _ hq => call_meets F.slot_bool_ne rfl F.entry_int_ne (F.args_int_ne_2 _ _) (int_bool_ne_dic b d od) ⟨hd, hc, hq⟩)
    (fun _ hq => dict_ne_dec ⟨_, hd, hc.1⟩ rfl F.sub_bool_dict hq)
    (fun _ hq => wpAny_of_eq (rfl : isSame (.bool b) (.ref d) = pure false) hq) (.inr hu) h
theorem RcNeAt_dic_int {d : Addr} {od : Obj} (b : Int) (u : Tok) (hd : s.heap.get? d = some od) (hc : DicO od) (hu : A.units < cLine) : RcNeAt A s (.ref d) (.int b u) true := fun prog w E Q h =>
  rc_ne_decline_or (k := false) ⟨_, hd, hc.1⟩ (typeIs_int s b u) (by decide) F.sub_int_dict F.slot_dict_ne F.slot_int_ne_refl
    (fun _ hq => dict_ne_dec ⟨_, hd, hc.1⟩ (typeIs_int s b u) F.sub_int_dict hq)
    (fun _ hq => call_meets F.slot_int_ne_refl (typeIs_int s b u) F.entry_int_ne (F.args_int_ne_2 _ _) (int_int_ne_dic b u d od) ⟨hd, hc, hq⟩)
    (fun _ hq => wpAny_of_eq (rfl : isSame (.ref d) (.int b u) = pure false) hq) (.inr hu) h
theorem RcNeAt_int_dic {d : Addr} {od : Obj} (b : Int) (u : Tok) (hd : s.heap.get? d = some od) (hc : DicO od) (hu : A.units < cLine) : RcNeAt A s (.int b u) (.ref d) true := fun prog w E Q h =>
  rc_ne_decline_or (k := false) (typeIs_int s b u) ⟨_, hd, hc.1⟩ (by decide) F.sub_dict_int F.slot_int_ne F.slot_dict_ne_refl
    (fun _ hq => call_meets F.slot_int_ne (typeIs_int s b u) F.entry_int_ne (F.args_int_ne_2 _ _) (int_int_ne_dic b u d od) ⟨hd, hc, hq⟩)
    (fun _ hq => dict_ne_dec ⟨_, hd, hc.1⟩ (typeIs_int s b u) F.sub_int_dict hq)
    (fun _ hq => wpAny_of_eq (rfl : isSame (.int b u) (.ref d) = pure false) hq) (.inr hu) h
theorem RcNeAt_dic_str {d : Addr} {od : Obj} (b : Str) (u : Tok) (hd : s.heap.get? d = some od) (hc : DicO od) (hu : A.units < cLine) : RcNeAt A s (.ref d) (.str b u) true := fun prog w E Q h =>
  rc_ne_decline_or (k := false) ⟨_, hd, hc.1⟩ (typeIs_str s b u) (by decide) F.sub_str_dict F.slot_dict_ne F.slot_str_ne_refl
    (fun _ hq => dict_ne_dec ⟨_, hd, hc.1⟩ (typeIs_str s b u) F.sub_str_dict hq)
    (fun _ hq => call_meets F.slot_str_ne_refl (typeIs_str s b u) F.entry_str_ne (F.args_str_ne_2 _ _) (str_str_ne_dic b u d od) ⟨hd, hc, hq⟩)
    (fun _ hq => wpAny_of_eq (rfl : isSame (.ref d) (.str b u) = pure false) hq) (.inr hu) h
theorem RcNeAt_str_dic {d : Addr} {od : Obj} (b : Str) (u : Tok) (hd : s.heap.get? d = some od) (hc : DicO od) (hu : A.units < cLine) : RcNeAt A s (.str b u) (.ref d) true := fun prog w E Q h =>
  rc_ne_decline_or (k := false) (typeIs_str s b u) ⟨_, hd, hc.1⟩ (by decide) F.sub_dict_str F.slot_str_ne F.slot_dict_ne_refl
    (fun _ hq => call_meets F.slot_str_ne (typeIs_str s b u) F.entry_str_ne (F.args_str_ne_2 _ _) (str_str_ne_dic b u d od) ⟨hd, hc, hq⟩)
    (fun _ hq => dict_ne_dec ⟨_, hd, hc.1⟩ (typeIs_str s b u) F.sub_str_dict hq)
    (fun _ hq => wpAny_of_eq (rfl : isSame (.str b u) (.ref d) = pure false) hq) (.inr hu) h
theorem RcNeAt_dic_lst {d l : Addr} {od : Obj} {items : Array Value} (hd : s.heap.get? d = some od) (hc : DicO od) (hl : s.heap.IsList l items) (hu : A.units < cLine) : RcNeAt A s (.ref d) (.ref l) true := fun prog w E Q h => by
  obtain ⟨⟨cls, dd, data, sl⟩, ho, hcl, n, hda⟩ := id hl
  simp only at hcl hda
  subst hcl hda
  have hne : d ≠ l := fun q => by subst q; rw [hd] at ho; cases ho; exact absurd hc.1 (by simp)
  exact (rc_ne_decline_or (k := false) ⟨_, hd, hc.1⟩ ⟨_, ho, rfl⟩ (by decide) F.sub_list_dict F.slot_dict_ne F.slot_list_ne_refl
    (fun _ hq => dict_ne_dec ⟨_, hd, hc.1⟩ ⟨_, ho, rfl⟩ F.sub_list_dict hq)
    (fun _ hq => call_meets F.slot_list_ne_refl ⟨_, ho, rfl⟩ F.entry_list_ne (F.args_list_ne_2 _ _) (list_ne_dic l d items n dd sl od) ⟨ho, hd, hc, hq⟩)
    (fun _ hq => wpAny_isSame_ref_other hne hd ho (by rw [hc.1]; simp) hq) (.inr hu) h)
theorem RcNeAt_lst_dic {d l : Addr} {od : Obj} {items : Array Value} (hd : s.heap.get? d = some od) (hc : DicO od) (hl : s.heap.IsList l items) (hu : A.units < cLine) : RcNeAt A s (.ref l) (.ref d) true := fun prog w E Q h => by
  obtain ⟨⟨cls, dd, data, sl⟩, ho, hcl, n, hda⟩ := id hl
  simp only at hcl hda
  subst hcl hda
  have hne : l ≠ d := fun q => by subst q; rw [hd] at ho; cases ho; exact absurd hc.1 (by simp)
  exact (rc_ne_decline_or (k := false) ⟨_, ho, rfl⟩ ⟨_, hd, hc.1⟩ (by decide) F.sub_dict_list F.slot_list_ne F.slot_dict_ne_refl
    (fun _ hq => call_meets F.slot_list_ne ⟨_, ho, rfl⟩ F.entry_list_ne (F.args_list_ne_2 _ _) (list_ne_dic l d items n dd sl od) ⟨ho, hd, hc, hq⟩)
    (fun _ hq => dict_ne_dec ⟨_, hd, hc.1⟩ ⟨_, ho, rfl⟩ F.sub_list_dict hq)
    (fun _ hq => wpAny_isSame_ref_other' hne ho hd (by rw [hc.1]; simp) hq) (.inr hu) h)
theorem RcNeAt_dic_tup {d l : Addr} {od : Obj} {items : Array Value} (hd : s.heap.get? d = some od) (hc : DicO od) (hl : s.heap.IsTuple l items) (hu : A.units < cLine) : RcNeAt A s (.ref d) (.ref l) true := fun prog w E Q h => by
  obtain ⟨⟨cls, dd, data, sl⟩, ho, hcl, n, hda⟩ := id hl
  simp only at hcl hda
  subst hcl hda
  have hne : d ≠ l := fun q => by subst q; rw [hd] at ho; cases ho; exact absurd hc.1 (by simp)
  exact (rc_ne_decline_or (k := false) ⟨_, hd, hc.1⟩ ⟨_, ho, rfl⟩ (by decide) F.sub_tuple_dict F.slot_dict_ne F.slot_tuple_ne_refl
    (fun _ hq => dict_ne_dec ⟨_, hd, hc.1⟩ ⟨_, ho, rfl⟩ F.sub_tuple_dict hq)
    (fun _ hq => call_meets F.slot_tuple_ne_refl ⟨_, ho, rfl⟩ F.entry_tuple_ne (F.args_tuple_ne_2 _ _) (tuple_ne_dic l d items n dd sl od) ⟨ho, hd, hc, hq⟩)
    (fun _ hq => wpAny_isSame_ref_other hne hd ho (by rw [hc.1]; simp) hq) (.inr hu) h)
theorem RcNeAt_tup_dic {d l : Addr} {od : Obj} {items : Array Value} (hd : s.heap.get? d = some od) (hc : DicO od) (hl : s.heap.IsTuple l items) (hu : A.units < cLine) : RcNeAt A s (.ref l) (.ref d) true := fun prog w E Q h => by
  obtain ⟨⟨cls, dd, data, sl⟩, ho, hcl, n, hda⟩ := id hl
  simp only at hcl hda
  subst hcl hda
  have hne : l ≠ d := fun q => by subst q; rw [hd] at ho; cases ho; exact absurd hc.1 (by simp)
  exact (rc_ne_decline_or (k := false) ⟨_, ho, rfl⟩ ⟨_, hd, hc.1⟩ (by decide) F.sub_dict_tuple F.slot_tuple_ne F.slot_dict_ne_refl
    (fun _ hq => call_meets F.slot_tuple_ne ⟨_, ho, rfl⟩ F.entry_tuple_ne (F.args_tuple_ne_2 _ _) (tuple_ne_dic l d items n dd sl od) ⟨ho, hd, hc, hq⟩)
    (fun _ hq => dict_ne_dec ⟨_, hd, hc.1⟩ ⟨_, ho, rfl⟩ F.sub_tuple_dict hq)
    (fun _ hq => wpAny_isSame_ref_other' hne ho hd (by rw [hc.1]; simp) hq) (.inr hu) h)
end
end Wc
namespace Wc
open PySem L2 PySem.SeqAt
section
variable {X : Cx} {T : Cl} {pins : List (Addr × Obj)} {σ : St} {H : Hp} {s : Shared} {A : Around} {v1 v2 : V} {u1 u2 : Value} {k : Bool}
theorem eqS_all (I : Inv X pins σ H s) (hu : A.units < cLine) : ∀ {d e : D}, Sh T H d v1 → Sh T H e v2 → RelV v1 u1 → RelV v2 u2 → eqS d e = some k → EqAt A s u1 u2 k ∧ RcAt A s u1 u2 k ∧ RcNeAt A s u1 u2 (!k) := by
  intro d e h1 h2 r1 r2 h
  cases d with
  | non =>
    cases e with
    | non => exact ⟨Eq_non_non I hu h1 h2 r1 r2 h, Rc_non_non I hu h1 h2 r1 r2 h, RcNe_non_non I hu h1 h2 r1 r2 h⟩
    | bl => exact ⟨Eq_non_bl I hu h1 h2 r1 r2 h, Rc_non_bl I hu h1 h2 r1 r2 h, RcNe_non_bl I hu h1 h2 r1 r2 h⟩
    | int => exact ⟨Eq_non_int I hu h1 h2 r1 r2 h, Rc_non_int I hu h1 h2 r1 r2 h, RcNe_non_int I hu h1 h2 r1 r2 h⟩
    | str => exact ⟨Eq_non_str I hu h1 h2 r1 r2 h, Rc_non_str I hu h1 h2 r1 r2 h, RcNe_non_str I hu h1 h2 r1 r2 h⟩
    | tup => exact ⟨Eq_non_tup I hu h1 h2 r1 r2 h, Rc_non_tup I hu h1 h2 r1 r2 h, RcNe_non_tup I hu h1 h2 r1 r2 h⟩
    | lst => exact ⟨Eq_non_lst I hu h1 h2 r1 r2 h, Rc_non_lst I hu h1 h2 r1 r2 h, RcNe_non_lst I hu h1 h2 r1 r2 h⟩
    | _ => simp [eqS, D.kind] at h
  | bl =>
    cases e with
    | non => exact ⟨Eq_bl_non I hu h1 h2 r1 r2 h, Rc_bl_non I hu h1 h2 r1 r2 h, RcNe_bl_non I hu h1 h2 r1 r2 h⟩
    | bl => exact ⟨Eq_bl_bl I hu h1 h2 r1 r2 h, Rc_bl_bl I hu h1 h2 r1 r2 h, RcNe_bl_bl I hu h1 h2 r1 r2 h⟩
    | int => exact ⟨Eq_bl_int I hu h1 h2 r1 r2 h, Rc_bl_int I hu h1 h2 r1 r2 h, RcNe_bl_int I hu h1 h2 r1 r2 h⟩
    | str => exact ⟨Eq_bl_str I hu h1 h2 r1 r2 h, Rc_bl_str I hu h1 h2 r1 r2 h, RcNe_bl_str I hu h1 h2 r1 r2 h⟩
    | tup => exact ⟨Eq_bl_tup I hu h1 h2 r1 r2 h, Rc_bl_tup I hu h1 h2 r1 r2 h, RcNe_bl_tup I hu h1 h2 r1 r2 h⟩
    | lst => exact ⟨Eq_bl_lst I hu h1 h2 r1 r2 h, Rc_bl_lst I hu h1 h2 r1 r2 h, RcNe_bl_lst I hu h1 h2 r1 r2 h⟩
    | _ => simp [eqS, D.kind] at h
  | int =>
    cases e with
    | non => exact ⟨Eq_int_non I hu h1 h2 r1 r2 h, Rc_int_non I hu h1 h2 r1 r2 h, RcNe_int_non I hu h1 h2 r1 r2 h⟩
    | bl => exact ⟨Eq_int_bl I hu h1 h2 r1 r2 h, Rc_int_bl I hu h1 h2 r1 r2 h, RcNe_int_bl I hu h1 h2 r1 r2 h⟩
    | int => exact ⟨Eq_int_int I hu h1 h2 r1 r2 h, Rc_int_int I hu h1 h2 r1 r2 h, RcNe_int_int I hu h1 h2 r1 r2 h⟩
    | str => exact ⟨Eq_int_str I hu h1 h2 r1 r2 h, Rc_int_str I hu h1 h2 r1 r2 h, RcNe_int_str I hu h1 h2 r1 r2 h⟩
    | tup => exact ⟨Eq_int_tup I hu h1 h2 r1 r2 h, Rc_int_tup I hu h1 h2 r1 r2 h, RcNe_int_tup I hu h1 h2 r1 r2 h⟩
    | lst => exact ⟨Eq_int_lst I hu h1 h2 r1 r2 h, Rc_int_lst I hu h1 h2 r1 r2 h, RcNe_int_lst I hu h1 h2 r1 r2 h⟩
    | _ => simp [eqS, D.kind] at h
  | str =>
    cases e with
    | non => exact ⟨Eq_str_non I hu h1 h2 r1 r2 h, Rc_str_non I hu h1 h2 r1 r2 h, RcNe_str_non I hu h1 h2 r1 r2 h⟩
    | bl => exact ⟨Eq_str_bl I hu h1 h2 r1 r2 h, Rc_str_bl I hu h1 h2 r1 r2 h, RcNe_str_bl I hu h1 h2 r1 r2 h⟩
    | int => exact ⟨Eq_str_int I hu h1 h2 r1 r2 h, Rc_str_int I hu h1 h2 r1 r2 h, RcNe_str_int I hu h1 h2 r1 r2 h⟩
    | str => exact ⟨Eq_str_str I hu h1 h2 r1 r2 h, Rc_str_str I hu h1 h2 r1 r2 h, RcNe_str_str I hu h1 h2 r1 r2 h⟩
    | tup => exact ⟨Eq_str_tup I hu h1 h2 r1 r2 h, Rc_str_tup I hu h1 h2 r1 r2 h, RcNe_str_tup I hu h1 h2 r1 r2 h⟩
    | lst => exact ⟨Eq_str_lst I hu h1 h2 r1 r2 h, Rc_str_lst I hu h1 h2 r1 r2 h, RcNe_str_lst I hu h1 h2 r1 r2 h⟩
    | _ => simp [eqS, D.kind] at h
  | tup =>
    cases e with
    | non => exact ⟨Eq_tup_non I hu h1 h2 r1 r2 h, Rc_tup_non I hu h1 h2 r1 r2 h, RcNe_tup_non I hu h1 h2 r1 r2 h⟩
    | bl => exact ⟨Eq_tup_bl I hu h1 h2 r1 r2 h, Rc_tup_bl I hu h1 h2 r1 r2 h, RcNe_tup_bl I hu h1 h2 r1 r2 h⟩
    | int => exact ⟨Eq_tup_int I hu h1 h2 r1 r2 h, Rc_tup_int I hu h1 h2 r1 r2 h, RcNe_tup_int I hu h1 h2 r1 r2 h⟩
    | str => exact ⟨Eq_tup_str I hu h1 h2 r1 r2 h, Rc_tup_str I hu h1 h2 r1 r2 h, RcNe_tup_str I hu h1 h2 r1 r2 h⟩
    | lst => exact ⟨Eq_tup_lst I hu h1 h2 r1 r2 h, Rc_tup_lst I hu h1 h2 r1 r2 h, RcNe_tup_lst I hu h1 h2 r1 r2 h⟩
    | _ => simp [eqS, D.kind] at h
  | lst =>
    cases e with
    | non => exact ⟨Eq_lst_non I hu h1 h2 r1 r2 h, Rc_lst_non I hu h1 h2 r1 r2 h, RcNe_lst_non I hu h1 h2 r1 r2 h⟩
    | bl => exact ⟨Eq_lst_bl I hu h1 h2 r1 r2 h, Rc_lst_bl I hu h1 h2 r1 r2 h, RcNe_lst_bl I hu h1 h2 r1 r2 h⟩
    | int => exact ⟨Eq_lst_int I hu h1 h2 r1 r2 h, Rc_lst_int I hu h1 h2 r1 r2 h, RcNe_lst_int I hu h1 h2 r1 r2 h⟩
    | str => exact ⟨Eq_lst_str I hu h1 h2 r1 r2 h, Rc_lst_str I hu h1 h2 r1 r2 h, RcNe_lst_str I hu h1 h2 r1 r2 h⟩
    | tup => exact ⟨Eq_lst_tup I hu h1 h2 r1 r2 h, Rc_lst_tup I hu h1 h2 r1 r2 h, RcNe_lst_tup I hu h1 h2 r1 r2 h⟩
    | _ => simp [eqS, D.kind] at h
  | _ => cases e <;> simp [eqS, D.kind] at h
theorem eqS_same : ∀ {d e : D} {v : V}, Sh T H d v → Sh T H e v → eqS d e = some k → k = true := by
  intro d e v h1 h2 h
  cases d <;> cases e <;> simp [eqS, D.kind] at h <;> simp [Sh] at h1 h2
  all_goals first
    | (rw [← h]; done)
    | (subst h1; cases h2; rw [← h]; simp; done)
    | (subst h1; obtain ⟨e2, _⟩ := h2; cases e2; done)
    | (subst h2; obtain ⟨e2, _⟩ := h1; cases e2; done)
    | (subst h1; obtain ⟨_, e2, _⟩ := h2; cases e2; done)
    | (subst h2; obtain ⟨_, e2, _⟩ := h1; cases e2; done)
    | (obtain ⟨rfl, _⟩ := h1; obtain ⟨e2, _⟩ := h2; simp at e2; subst e2; rw [← h]; simp)
    | (subst h1; simp at h2)
    | (subst h2; simp at h1)
    | (subst h1; obtain ⟨_, h2, _⟩ := h2; cases h2)
    | (subst h2; obtain ⟨_, h1, _⟩ := h1; cases h1)
    | (obtain ⟨rfl, _⟩ := h1; obtain ⟨_, h2, _⟩ := h2; cases h2)
    | (obtain ⟨rfl, _⟩ := h2; obtain ⟨_, h1, _⟩ := h1; cases h1)
    | (obtain ⟨a, e1, vs, q1, _⟩ := h1; obtain ⟨b, e2, us, q2, _⟩ := h2; rw [e1] at e2; cases e2; rw [q1] at q2; cases q2)
theorem dic0 {d e : D} {k : Bool} (h : eqE d e = some k) : (d = .dic [] [] ∧ e = .dic [] [] ∧ k = true) ∨ (d = .dic [] [] ∧ e.kind < 5 ∧ k = false) ∨ (e = .dic [] [] ∧ d.kind < 5 ∧ k = false) ∨ eqS d e = some k := by
  unfold eqE at h
  split at h
  · cases h; exact .inl ⟨rfl, rfl, rfl⟩
  · split at h
    · rename_i q; cases h; exact .inr (.inl ⟨rfl, q, rfl⟩)
    · cases h
  · split at h
    · rename_i q; cases h; exact .inr (.inr (.inl ⟨rfl, q, rfl⟩))
    · cases h
  · exact .inr (.inr (.inr h))
theorem sh_dic0 {a : Addr} (I : Inv X pins σ H s) {v : V} {u : Value} (h : Sh T H (.dic [] []) v) (r : RelV v u) : ∃ d od, u = .ref d ∧ s.heap.get? d = some od ∧ DicO od ∧ (d == sysModules) = false ∧ v = .ref d ∧ ∀ (P : Program) (w : World), s.heap.DictOf (mixKind P w) d [] := by
  obtain ⟨a, kv, rfl, h1, h2, h3⟩ := h
  obtain rfl : u = Value.ref a := r
  obtain rfl : kv = [] := by simpa using h2
  obtain ⟨_, ya, va, ra, da⟩ := (show ObjOk X.prog X.w H s.heap a (.dK []) from h1.ok I.hok)
  cases ra
  obtain ⟨o, es, ep, ho, hx, hd, hk, hp, hn⟩ := da
  have e0 : es.toList = [] := by
    cases q : es.toList with
    | nil => rfl
    | cons x xs => rw [q] at hp; cases hp
  have e1 : es = #[] := by
    apply Array.ext'
    simpa using e0
  subst e1
  exact ⟨a, o, rfl, ho, ⟨(show s.TypeIs (.ref a) "dict" from ⟨o, ho, hx.1⟩).elim fun o' q => by obtain ⟨q1, q2⟩ := q; rw [ho] at q1; cases q1; exact q2, _, _, hd⟩, ya, rfl, fun P w => ⟨o, #[], ep, ho, hx, hd, fun e he => by simp at he, .nil, List.nodup_nil⟩⟩
theorem sh_apart {d e : D} {v : V} (q : (d = .dic [] [] ∧ e.kind < 5) ∨ (e = .dic [] [] ∧ d.kind < 5)) (h1 : Sh T H d v) (h2 : Sh T H e v) : False := by
  have key : ∀ {e : D}, e.kind < 5 → Sh T H (.dic [] []) v → Sh T H e v → False := by
    intro e q h1 h2
    obtain ⟨a, kv, rfl, h3, _, _⟩ := h1
    cases e with
    | non => cases h2
    | bl y => cases h2
    | int y => cases h2
    | str y => cases h2.1
    | tup y => obtain ⟨b, vs, e1, hz, _, _⟩ := h2; cases e1; rcases h3 with h3 | ⟨_, h3⟩ <;> (rw [h3] at hz; cases hz)
    | lst y => obtain ⟨b, vs, e1, hz, _, _⟩ := h2; cases e1; rcases h3 with h3 | ⟨_, h3⟩ <;> (rw [h3] at hz; cases hz)
    | _ => simp [D.kind] at q
  rcases q with ⟨rfl, q⟩ | ⟨rfl, q⟩
  · exact key q h1 h2
  · exact key q h2 h1
theorem eqAt_rc {a : Addr} {v : V} {u : Value} {k : Bool} (h : RcAt A s (.ref a) u k) (hn : v = .ref a → False) (r : RelV v u) : EqAt A s (.ref a) u k := fun P w E Q q => by
  unfold eqBool
  refine wpAny_holding ?_
  refine wpAny_ite_split (fun hab => ?_) (fun _ => wpAny_bind (h P w E _ (wpAny_truthy_bool q)))
  have e : Value.ref a = u := eq_of_beq hab
  subst e
  exact (hn (by cases v <;> first | rfl | (simp [RelV] at r; done) | (have := r; simp_all [RelV]))).elim
theorem eqAt_rc2 {a : Addr} {v : V} {u : Value} {k : Bool} (h : RcAt A s u (.ref a) k) (hn : v = .ref a → False) (r : RelV v u) : EqAt A s u (.ref a) k := fun P w E Q q => by
  unfold eqBool
  refine wpAny_holding ?_
  refine wpAny_ite_split (fun hab => ?_) (fun _ => by cases u <;> exact wpAny_bind (h P w E _ (wpAny_truthy_bool q)))
  have e : u = Value.ref a := eq_of_beq hab
  subst e
  exact (hn (by cases v <;> first | rfl | (simp [RelV] at r; done) | (have := r; simp_all [RelV]))).elim
theorem eqE_all (I : Inv X pins σ H s) (hu : A.units < cLine) : ∀ {d e : D}, Sh T H d v1 → Sh T H e v2 → RelV v1 u1 → RelV v2 u2 → eqE d e = some k → EqAt A s u1 u2 k ∧ RcAt A s u1 u2 k ∧ RcNeAt A s u1 u2 (!k) := by
  intro d e h1 h2 r1 r2 h
  rcases dic0 h with ⟨rfl, rfl, rfl⟩ | ⟨rfl, q, rfl⟩ | ⟨rfl, q, rfl⟩ | h
  · obtain ⟨a, oa, rfl, ha, ca, ya, rfl, da⟩ := sh_dic0 (a := 0) I h1 r1
    obtain ⟨b, ob, rfl, hb, cb, yb, rfl, db⟩ := sh_dic0 (a := 0) I h2 r2
    have rc : RcAt A s (.ref a) (.ref b) true := fun P w E Q q => PySem.W.keq_eq (knd := mixKind P w) (r := true) ya yb (da P w) (db P w) hu (fun _ => .nil) q
    refine ⟨?_, rc, fun P w E Q q => PySem.W.keq_ne (knd := mixKind P w) (r := true) ya yb (da P w) (db P w) hu (fun _ => .nil) q⟩
    by_cases hab : a = b
    · subst hab; exact EqAt.same _
    · exact EqAt.of_refs hab rc
  · obtain ⟨a, oa, rfl, ha, ca, ya, rfl, da⟩ := sh_dic0 (a := 0) I h1 r1
    have both : RcAt A s (.ref a) u2 false ∧ RcNeAt A s (.ref a) u2 true := by
      cases e with
      | non => obtain rfl := h2; cases r2; exact ⟨RcAt_dic_non ha ca hu, RcNeAt_dic_non ha ca hu⟩
      | bl y => obtain rfl := h2; cases r2; exact ⟨RcAt_dic_bl _ ha ca hu, RcNeAt_dic_bl _ ha ca hu⟩
      | int y => obtain rfl := h2; obtain ⟨t, rfl⟩ := r2; exact ⟨RcAt_dic_int _ _ ha ca hu, RcNeAt_dic_int _ _ ha ca hu⟩
      | str y => obtain ⟨rfl, _⟩ := h2; obtain ⟨t, rfl⟩ := r2; exact ⟨RcAt_dic_str _ _ ha ca hu, RcNeAt_dic_str _ _ ha ca hu⟩
      | tup y =>
        obtain ⟨b, vs, rfl, hz, _, _⟩ := h2; cases r2
        obtain ⟨its, rv, ht, _⟩ := I.tuple (SqT.of (K := X.K) hz)
        exact ⟨RcAt_dic_tup ha ca ht hu, RcNeAt_dic_tup ha ca ht hu⟩
      | lst y =>
        obtain ⟨b, vs, rfl, hz, _, _⟩ := h2; cases r2
        obtain ⟨its, rv, ht, _⟩ := I.list (SqL.of (K := X.K) hz)
        exact ⟨RcAt_dic_lst ha ca ht.isList hu, RcNeAt_dic_lst ha ca ht.isList hu⟩
      | _ => simp [D.kind] at q
    exact ⟨eqAt_rc both.1 (fun p => sh_apart (.inl ⟨rfl, q⟩) h1 (p ▸ h2 : _)) r2, both.1, both.2⟩
  · obtain ⟨a, oa, rfl, ha, ca, ya, rfl, da⟩ := sh_dic0 (a := 0) I h2 r2
    have both : RcAt A s u1 (.ref a) false ∧ RcNeAt A s u1 (.ref a) true := by
      cases d with
      | non => obtain rfl := h1; cases r1; exact ⟨RcAt_non_dic ha ca hu, RcNeAt_non_dic ha ca hu⟩
      | bl y => obtain rfl := h1; cases r1; exact ⟨RcAt_bl_dic _ ha ca hu, RcNeAt_bl_dic _ ha ca hu⟩
      | int y => obtain rfl := h1; obtain ⟨t, rfl⟩ := r1; exact ⟨RcAt_int_dic _ _ ha ca hu, RcNeAt_int_dic _ _ ha ca hu⟩
      | str y => obtain ⟨rfl, _⟩ := h1; obtain ⟨t, rfl⟩ := r1; exact ⟨RcAt_str_dic _ _ ha ca hu, RcNeAt_str_dic _ _ ha ca hu⟩
      | tup y =>
        obtain ⟨b, vs, rfl, hz, _, _⟩ := h1; cases r1
        obtain ⟨its, rv, ht, _⟩ := I.tuple (SqT.of (K := X.K) hz)
        exact ⟨RcAt_tup_dic ha ca ht hu, RcNeAt_tup_dic ha ca ht hu⟩
      | lst y =>
        obtain ⟨b, vs, rfl, hz, _, _⟩ := h1; cases r1
        obtain ⟨its, rv, ht, _⟩ := I.list (SqL.of (K := X.K) hz)
        exact ⟨RcAt_lst_dic ha ca ht.isList hu, RcNeAt_lst_dic ha ca ht.isList hu⟩
      | _ => simp [D.kind] at q
    exact ⟨eqAt_rc2 both.1 (fun p => sh_apart (.inr ⟨rfl, q⟩) (p ▸ h1 : _) h2) r1, both.1, both.2⟩
  · exact eqS_all I hu h1 h2 r1 r2 h
theorem eqE_same : ∀ {d e : D} {v : V}, Sh T H d v → Sh T H e v → eqE d e = some k → k = true := by
  intro d e v h1 h2 h
  rcases dic0 h with ⟨rfl, rfl, rfl⟩ | ⟨rfl, q, rfl⟩ | ⟨rfl, q, rfl⟩ | h
  · rfl
  · exact (sh_apart (.inl ⟨rfl, q⟩) h1 h2).elim
  · exact (sh_apart (.inr ⟨rfl, q⟩) h1 h2).elim
  · exact eqS_same h1 h2 h
theorem eqL_same {f : D → D → Option Bool} (hf : ∀ {d e : D} {v : V} {k : Bool}, Sh T H d v → Sh T H e v → f d e = some k → k = true) : ∀ {xs ys : List D} {vs : List V} {k : Bool}, ShL T H xs vs → ShL T H ys vs → eqL f xs ys = some k → k = true
  | [], [], _, k, _, _, h => by simp [eqL] at h; exact h
  | [], _ :: _, _, k, h1, ⟨_, _, h2, _⟩, h => by rw [show _ = ([] : List V) from h1] at h2; cases h2
  | _ :: _, [], _, k, ⟨_, _, h1, _⟩, h2, h => by rw [show _ = ([] : List V) from h2] at h1; cases h1
  | x :: xs, y :: ys, _, k, ⟨v, r, e1, s1, t1⟩, ⟨v', r', e2, s2, t2⟩, h => by
    rw [e1] at e2; cases e2
    simp only [eqL] at h
    cases e3 : f x y with
    | none => rw [e3] at h; cases h
    | some a =>
      rw [e3] at h
      cases e4 : eqL f xs ys with
      | none => rw [e4] at h; cases h
      | some b =>
        rw [e4] at h
        have ha := hf s1 s2 e3
        have hb := eqL_same hf t1 t2 e4
        subst ha hb
        cases h; rfl
theorem eqD_same : ∀ (n : Nat) {d e : D} {v : V} {k : Bool}, Sh T H d v → Sh T H e v → eqD n d e = some k → k = true
  | 0, d, e, v, k, h1, h2, h => eqE_same h1 h2 h
  | n + 1, d, e, v, k, h1, h2, h => by
    simp only [eqD] at h
    split at h
    · obtain ⟨a, vs, e1, q1, _, s1⟩ := h1
      obtain ⟨b, us, e2, q2, _, s2⟩ := h2
      rw [e1] at e2; cases e2
      rw [q1] at q2; cases q2
      exact eqL_same (eqD_same n) s1 s2 h
    · obtain ⟨a, vs, e1, q1, _, s1⟩ := h1
      obtain ⟨b, us, e2, q2, _, s2⟩ := h2
      rw [e1] at e2; cases e2
      rw [q1] at q2; cases q2
      split at h
      · exact eqL_same (eqD_same n) s1 s2 h
      · rename_i hl
        exact absurd (s1.length.symm.trans s2.length) hl
    · exact eqE_same h1 h2 h
def pairK (f : D → D → Option Bool) (xs ys : List D) (j : Nat) : Bool := match xs[j]?, ys[j]? with
  | some x, some y => (f x y).getD false
  | _, _ => false
theorem range_all (n : Nat) (e : Nat → Bool) : (List.range (n + 1)).all e = (e 0 && (List.range n).all fun j => e (j + 1)) := by
  rw [List.range_succ_eq_map, List.all_cons, List.all_map]
  rfl
theorem eqL_all {f : D → D → Option Bool} : ∀ {xs ys : List D} {k : Bool}, eqL f xs ys = some k →
    (∀ (j : Nat) (x y : D), xs[j]? = some x → ys[j]? = some y → f x y = some (pairK f xs ys j)) ∧ k = ((List.range (min xs.length ys.length)).all (pairK f xs ys) && xs.length == ys.length)
  | [], [], k, h => by simp [eqL] at h; subst h; exact ⟨fun j x y hx => by simp at hx, by simp⟩
  | [], _ :: _, k, h => by simp [eqL] at h; subst h; exact ⟨fun j x y hx => by simp at hx, by simp⟩
  | _ :: _, [], k, h => by simp [eqL] at h; subst h; exact ⟨fun j x y _ hy => by simp at hy, by simp⟩
  | x :: xs, y :: ys, k, h => by
    simp only [eqL] at h
    cases e3 : f x y with
    | none => rw [e3] at h; cases h
    | some a =>
      rw [e3] at h
      cases e4 : eqL f xs ys with
      | none => rw [e4] at h; cases h
      | some b =>
        rw [e4] at h
        obtain ⟨h1, h2⟩ := eqL_all e4
        have hk : (a && b) = k := by cases h; rfl
        refine ⟨fun j x' y' hx hy => ?_, ?_⟩
        · cases j with
          | zero =>
            simp at hx hy; subst hx hy
            simp [pairK, e3]
          | succ j =>
            simp at hx hy
            rw [h1 j x' y' hx hy]
            simp [pairK]
        · have e0 : pairK f (x :: xs) (y :: ys) 0 = a := by simp [pairK, e3]
          have es : (fun j => pairK f (x :: xs) (y :: ys) (j + 1)) = pairK f xs ys := by funext j; simp [pairK]
          rw [List.length_cons, List.length_cons, Nat.succ_min_succ, range_all, e0, es, ← hk, h2]
          have e5 : (xs.length + 1 == ys.length + 1) = (xs.length == ys.length) := by
            by_cases q : xs.length = ys.length
            · simp [q]
            · rw [beq_eq_false_iff_ne.mpr q, beq_eq_false_iff_ne.mpr (by omega)]
          rw [e5, Bool.and_assoc]
theorem Vals.at_ {vs : List V} {us : List Value} (r : Vals vs us) {j : Nat} {u : Value} (h : us[j]? = some u) : ∃ v, vs[j]? = some v ∧ RelV v u := by
  have hl := r.length
  have hj : j < us.length := by
    rcases Nat.lt_or_ge j us.length with q | q
    · exact q
    · rw [List.getElem?_eq_none q] at h; cases h
  have hv : vs[j]? = some (vs[j]'(by omega)) := by simp
  obtain ⟨u', e1, e2⟩ := r.get hv
  rw [h] at e1; cases e1
  exact ⟨_, hv, e2⟩
theorem eqAtD (I : Inv X pins σ H s) : ∀ (n : Nat) (d e : D) (A : Around) (v1 v2 : V) (u1 u2 : Value) (k : Bool), A.units + n < cLine → Sh T H d v1 → Sh T H e v2 → RelV v1 u1 → RelV v2 u2 → eqD n d e = some k →
    EqAt A s u1 u2 k ∧ RcAt A s u1 u2 k ∧ RcNeAt A s u1 u2 (!k)
  | 0, d, e, A, v1, v2, u1, u2, k, hu, h1, h2, r1, r2, h => eqE_all I (by omega) h1 h2 r1 r2 h
  | n + 1, d, e, A, v1, v2, u1, u2, k, hu, h1, h2, r1, r2, h => by
    have same := fun (q : v1 = v2) => eqD_same (n + 1) h1 (by rw [q]; exact h2) h
    have key : ∀ {xs ys : List D} {ws zs : List V} {is js : List Value}, ShL T H xs ws → ShL T H ys zs → Vals ws is → Vals zs js → ∀ {k : Bool}, eqL (eqD n) xs ys = some k →
        ∀ j (j1 : j < is.toArray.size) (j2 : j < js.toArray.size), EqAt A.in1 s is.toArray[j] js.toArray[j] (pairK (eqD n) xs ys j) := by
      intro xs ys ws zs is js s1 s2 q1 q2 k hk j j1 j2
      have j1' : j < is.length := by simpa using j1
      have j2' : j < js.length := by simpa using j2
      obtain ⟨v, e1, e2⟩ := Vals.at_ q1 (u := is[j]) (List.getElem?_eq_getElem j1')
      obtain ⟨v', e3, e4⟩ := Vals.at_ q2 (u := js[j]) (List.getElem?_eq_getElem j2')
      obtain ⟨x, g1, g2⟩ := s1.getV e1
      obtain ⟨y, g3, g4⟩ := s2.getV e3
      have := (eqAtD I n x y A.in1 v v' is[j] js[j] _ (by show A.units + 1 + n < cLine; omega) g2 g4 e2 e4 ((eqL_all hk).1 j x y g1 g3)).1
      simpa using this
    simp only [eqD] at h
    split at h
    · rename_i xs ys
      obtain ⟨a, ws, e1, q1, _, s1⟩ := h1
      obtain ⟨b, zs, e2, q2, _, s2⟩ := h2
      subst e1 e2
      cases r1; cases r2
      obtain ⟨is, ri, ti, _⟩ := I.tuple (SqT.of (K := X.K) q1)
      obtain ⟨js, rj, tj, _⟩ := I.tuple (SqT.of (K := X.K) q2)
      have hk := (eqL_all h).2
      have n1 : is.toArray.size = xs.length := by rw [List.size_toArray, ← ri.length, s1.length]
      have n2 : js.toArray.size = ys.length := by rw [List.size_toArray, ← rj.length, s2.length]
      have rc : RcAt A s (.ref a) (.ref b) k := by
        rw [hk, ← n1, ← n2]
        exact RcAt.tuples ti tj (by omega) (key s1 s2 ri rj h)
      refine ⟨?_, rc, ?_⟩
      · by_cases hab : a = b
        · have := same (by rw [hab])
          subst this hab
          exact EqAt.same _
        · exact EqAt.of_refs hab rc
      · rw [hk, ← n1, ← n2]
        exact RcNeAt.tuples ti tj (by omega) (key s1 s2 ri rj h)
    · rename_i xs ys
      obtain ⟨a, ws, e1, q1, _, s1⟩ := h1
      obtain ⟨b, zs, e2, q2, _, s2⟩ := h2
      subst e1 e2
      cases r1; cases r2
      obtain ⟨is, ri, ti, _⟩ := I.list (SqL.of (K := X.K) q1)
      obtain ⟨js, rj, tj, _⟩ := I.list (SqL.of (K := X.K) q2)
      have n1 : is.toArray.size = xs.length := by rw [List.size_toArray, ← ri.length, s1.length]
      have n2 : js.toArray.size = ys.length := by rw [List.size_toArray, ← rj.length, s2.length]
      have both : RcAt A s (.ref a) (.ref b) k ∧ RcNeAt A s (.ref a) (.ref b) (!k) := by
        split at h
        · rename_i hl
          have hk := (eqL_all h).2
          have hk' : k = (List.range is.toArray.size).all (pairK (eqD n) xs ys) := by rw [hk, hl, Nat.min_self, n1, hl]; simp
          rw [hk']
          exact ⟨RcAt.lists ti.isList tj.isList (by omega) (by omega) (key s1 s2 ri rj h), RcNeAt.lists ti.isList tj.isList (by omega) (by omega) (key s1 s2 ri rj h)⟩
        · rename_i hl
          cases h
          exact ⟨RcAt.lists_lengths ti.isList tj.isList (by rw [n1, n2]; simpa using hl) (by omega), RcNeAt.lists_lengths ti.isList tj.isList (by rw [n1, n2]; simpa using hl) (by omega)⟩
      refine ⟨?_, both.1, both.2⟩
      by_cases hab : a = b
      · have := same (by rw [hab])
        subst this hab
        exact EqAt.same _
      · exact EqAt.of_refs hab both.1
    · exact eqE_all I (by omega) h1 h2 r1 r2 h
end
end Wc
namespace Wc
open PySem L2 PySem.SeqAt
abbrev lim : Nat := 16777216
theorem Vw.sh {T : Cl} {Z H : Hp} (e : Ex Z H) : ∀ {d : D} {v : V}, Vw T Z H d v → Sh T H d v
  | .non, _, h => h
  | .bl _, _, h => h
  | .int _, _, h => h
  | .str _, _, h => h
  | .tup ds, _, h => Sh.mono e _ _ (show Sh T Z (.tup ds) _ from h)
  | .lst ds, _, ⟨a, vs, h1, h2, h3, h4⟩ => ⟨a, vs, h1, h2, h3, ShL.mono e ds vs h4⟩
  | .dic ks ds, _, ⟨a, kv, h1, h2, h3, h4⟩ => ⟨a, kv, h1, h2, h3, ShL.mono e ds _ h4⟩
  | .obj _ _ ds, _, ⟨a, dx, fv, h1, h2, h3, h4⟩ => ⟨a, dx, fv, h1, h2, h3, ShL.mono e ds _ h4⟩
  | .scr ns, _, h => Sh.mono e _ _ (show Sh T Z (.scr ns) _ from h)
  | .exn c ns ds, _, h => Sh.mono e _ _ (show Sh T Z (.exn c ns ds) _ from h)
  | .fnv _, _, h => h
def addD : D → D → Option W
  | .int i, .int j => some (.sh (.int (i + j)))
  | .str s, .str t => if s.length + t.length ≤ lim then some (.sh (.str (s ++ t))) else none
  | .lst xs, .lst ys => if xs.length + ys.length ≤ lim then some (.ml (xs ++ ys)) else none
  | .tup xs, .tup ys => if xs.length + ys.length ≤ lim ∧ xs.isEmpty = false then some (.sh (.tup (xs ++ ys))) else none
  | _, _ => none
def subD : D → D → Option W
  | .int i, .int j => some (.sh (.int (i - j)))
  | _, _ => none
def mulI (i j : Int) : Bool := (decide (-(2 ^ 64) < i) && decide (i < 2 ^ 64)) || (decide (-(2 ^ 64) < j) && decide (j < 2 ^ 64))
def repOk (n : Nat) (k : Int) : Bool := decide (-(2 ^ 63) ≤ k) && decide (k < 2 ^ 63) && decide (n * k.toNat ≤ lim)
def mulD : D → D → Option W
  | .int i, .int j => if mulI i j = true then some (.sh (.int (i * j))) else none
  | .lst xs, .int k => if repOk xs.length k = true then some (.ml (List.replicate k.toNat xs).flatten) else none
  | .str s, .int k => if repOk s.length k = true then some (.sh (.str (List.replicate k.toNat s).flatten)) else none
  | _, _ => none
def modD : D → D → Option W
  | .int i, .int j => if 0 < j then some (.sh (.int (i % j))) else none
  | _, _ => none
def fdivD : D → D → Option W
  | .int i, .int j => if 0 < j ∧ j < 1073741824 then some (.sh (.int (i / j))) else none
  | _, _ => none
section
variable {X : Cx} {T : Cl}
def rAddD (K : PySem.W.Frag) : R2 := fun x y H Q => rI0 (fun i j => .int (i + j)) x y H Q ∨ (∃ i j, x = .str i ∧ y = .str j ∧ i.length + j.length ≤ sizeLine ∧ Q (.str (i ++ j)) H) ∨ rCat x y H Q ∨ rCatT K x y H Q
theorem op_addD : OpR X (binaryOp .Add) (rAddD X.K) := op_add.or (op_add_str.or (op_cat.or op_catT))
theorem str_app (s t : List Nat) : (⟨s.toArray⟩ : Str) ++ ⟨t.toArray⟩ = ⟨(s ++ t).toArray⟩ := by
  show (⟨s.toArray ++ t.toArray⟩ : Str) = _
  congr 1
  simp
theorem str_len (s : List Nat) : (⟨s.toArray⟩ : Str).length = s.length := by
  show s.toArray.size = _
  simp
theorem sAdd : S2 T (rAddD X.K) addD := by
  intro Z H σ env v u d e w Q r hd he ho n
  cases d <;> cases e <;> try (simp [addD] at ho; done)
  · rename_i i j
    simp [addD] at ho; subst ho
    obtain rfl := hd; obtain rfl := he
    exact .inl ⟨i, j, rfl, rfl, n.sc r rfl⟩
  · rename_i s t
    simp only [addD] at ho
    split at ho
    · rename_i hl
      cases ho
      obtain ⟨rfl, _⟩ := hd; obtain ⟨rfl, _⟩ := he
      refine .inr (.inl ⟨_, _, rfl, rfl, by rw [str_len, str_len]; exact hl, ?_⟩)
      rw [str_app]
      exact n.sc r ⟨rfl, by rw [List.length_append]; exact hl⟩
    · cases ho
  · rename_i xs ys
    simp only [addD] at ho
    split at ho
    · rename_i hl
      cases ho
      have hd0 : Sh T Z (.tup xs) v := hd
      obtain ⟨a, vs, rfl, h1, _, s1⟩ := hd; obtain ⟨b, us, rfl, h2, _, s2⟩ := he
      refine .inr (.inr (.inr ⟨a, b, vs, us, rfl, rfl, SqT.of (r.ex _ _ h1), SqT.of (r.ex _ _ h2), fun q => ?_, by rw [s1.length, s2.length]; exact hl.1, fun q => ?_, fun _ p hp => n.tup r (s1.append s2) (by rw [List.length_append]; exact hl.1) hp⟩))
      · have q1 := s1.length
        rw [q] at q1
        have q2 : xs = [] := List.length_eq_zero_iff.mp q1.symm
        rw [q2] at hl
        exact absurd hl.2 (by simp)
      · have hy : ys = [] := by have := s2.length; rw [q] at this; exact List.length_eq_zero_iff.mp this.symm
        subst hy
        rw [List.append_nil] at n
        exact n.sc r hd0
    · cases ho
  · rename_i xs ys
    simp only [addD] at ho
    split at ho
    · rename_i hl
      cases ho
      obtain ⟨a, vs, rfl, h1, _, s1⟩ := hd; obtain ⟨b, us, rfl, h2, _, s2⟩ := he
      exact .inr (.inr (.inl ⟨a, b, vs, us, rfl, rfl, h1, h2, by rw [s1.length, s2.length]; exact hl, fun p hp => n.ml r (s1.append s2) (by rw [List.length_append]; exact hl) hp⟩))
    · cases ho
theorem sSub : S2 T (rI0 fun i j => .int (i - j)) subD := by
  intro Z H σ env v u d e w Q r hd he ho n
  cases d <;> cases e <;> try (simp [subD] at ho; done)
  rename_i i j
  simp [subD] at ho; subst ho
  obtain rfl := hd; obtain rfl := he
  exact ⟨i, j, rfl, rfl, n.sc r rfl⟩
theorem mulI_ok {i j : Int} (h : mulI i j = true) : CMul i j := by
  simp only [mulI, Bool.or_eq_true, Bool.and_eq_true, decide_eq_true_eq] at h
  exact h
theorem flat_len {α : Type} (xs : List α) : ∀ k : Nat, (List.replicate k xs).flatten.length = xs.length * k
  | 0 => by simp
  | k + 1 => by rw [List.replicate_succ, List.flatten_cons, List.length_append, flat_len xs k, Nat.mul_succ, Nat.add_comm]
theorem op_mulS : OpR X (binaryOp .Mult) (fun x y H Q => ∃ (s : List Nat) (k : Int), x = .str ⟨s.toArray⟩ ∧ y = .int k ∧ s.length ≤ sizeLine ∧ repOk s.length k = true ∧ Q (.str ⟨(List.replicate k.toNat s).flatten.toArray⟩) H) := by
  intro pins s σ H x y v u Q I rx ry h
  obtain ⟨z, k, rfl, rfl, hz, hk, q⟩ := h
  obtain ⟨t, rfl⟩ := rx
  obtain ⟨t', rfl⟩ := ry
  simp only [repOk, Bool.and_eq_true, decide_eq_true_eq] at hk
  obtain ⟨⟨k1, k2⟩, k3⟩ := hk
  have big : ¬ k < 1 → ((⟨z.toArray⟩ : Str).length : Int) * k ≤ lim := fun hn => by
    rw [str_len]
    have e : (k.toNat : Int) = k := Int.toNat_of_nonneg (by omega)
    have := Int.ofNat_le.mpr k3
    rw [Int.natCast_mul, e] at this
    exact this
  refine P.mul_str (by rw [decide_eq_false (by omega), decide_eq_false (by omega)]; rfl) (fun hn _ hgt => ?_) (fun hn _ => ?_) ?_
  · have h1 := Int.lt_ediv_add_one_mul_self (2 ^ 63 - 1) (show 0 < k by omega)
    have h2 : ((2 ^ 63 - 1) / k + 1) * k ≤ ((⟨z.toArray⟩ : Str).length : Int) * k := Int.mul_le_mul_of_nonneg_right (by omega) (by omega)
    have h3 := big hn
    simp only [lim] at h3
    omega
  · rw [str_len]
    exact decide_eq_false (by show ¬ z.length * k.toNat > 16777216; simp only [lim] at k3; omega)
  · split
    · rename_i hn
      have e0 : k.toNat = 0 := by omega
      rw [e0] at q
      exact ⟨by decide, ⟨.str Str.empty, H, I.tok _, ⟨_, rfl⟩, q⟩⟩
    · rename_i hn
      split
      · rename_i h1
        have e1 : (List.replicate k.toNat z).flatten = z := by
          rw [str_len] at h1
          simp only [Bool.or_eq_true, beq_iff_eq] at h1
          rcases h1 with h1 | h1
          · subst h1; simp
          · have hz0 := List.length_eq_zero_iff.mp h1
            subst hz0
            simp
        rw [e1] at q
        exact ⟨.str _, H, I, ⟨_, rfl⟩, q⟩
      · have ef : ∀ (n : Nat) (acc : Array Nat), (List.replicate n z.toArray).foldl (· ++ ·) acc = (acc.toList ++ (List.replicate n z).flatten).toArray := by
          intro n
          induction n with
          | zero => intro acc; simp
          | succ n ih => intro acc; rw [List.replicate_succ, List.foldl_cons, ih, List.replicate_succ, List.flatten_cons]; simp
        have e2 : (⟨(List.replicate k.toNat z.toArray).foldl (· ++ ·) #[]⟩ : Str) = ⟨(List.replicate k.toNat z).flatten.toArray⟩ := by rw [ef]; simp
        show Made.post (Made.str (⟨(List.replicate k.toNat z.toArray).foldl (· ++ ·) #[]⟩ : Str)) _ _
        rw [e2]
        refine ⟨?_, ⟨.str _, H, I.tok _, ⟨_, rfl⟩, q⟩⟩
        rw [str_len, flat_len]
        exact k3
def rMulD (K : PySem.W.Frag) : R2 := fun x y H Q => rI CMul (fun i j => .int (i * j)) x y H Q ∨ rRep x y H Q ∨
  (∃ (s : List Nat) (k : Int), x = .str ⟨s.toArray⟩ ∧ y = .int k ∧ s.length ≤ sizeLine ∧ repOk s.length k = true ∧ Q (.str ⟨(List.replicate k.toNat s).flatten.toArray⟩) H)
theorem op_mulD : OpR X (binaryOp .Mult) (rMulD X.K) := op_mul.or (op_rep.or op_mulS)
theorem ShL.flat {Z : Hp} {ds : List D} {vs : List V} (h : ShL T Z ds vs) : ∀ k : Nat, ShL T Z (List.replicate k ds).flatten (List.replicate k vs).flatten
  | 0 => by simp [ShL]
  | k + 1 => by rw [List.replicate_succ, List.replicate_succ, List.flatten_cons, List.flatten_cons]; exact h.append (ShL.flat h k)
theorem sMul : S2 T (rMulD X.K) mulD := by
  intro Z H σ env v u d e w Q r hd he ho n
  cases d <;> cases e <;> try (simp [mulD] at ho; done)
  · rename_i i j
    simp only [mulD] at ho
    split at ho
    · rename_i hm
      cases ho
      obtain rfl := hd; obtain rfl := he
      exact .inl ⟨i, j, rfl, rfl, mulI_ok hm, n.sc r rfl⟩
    · cases ho
  · rename_i s k
    simp only [mulD] at ho
    split at ho
    · rename_i hm
      cases ho
      obtain ⟨rfl, hl⟩ := hd; obtain rfl := he
      refine .inr (.inr ⟨s, k, rfl, rfl, hl, hm, n.sc r ⟨rfl, ?_⟩⟩)
      rw [flat_len]
      simp only [repOk, Bool.and_eq_true, decide_eq_true_eq] at hm
      exact hm.2
    · cases ho
  · rename_i xs k
    simp only [mulD] at ho
    split at ho
    · rename_i hm
      cases ho
      obtain ⟨a, vs, rfl, h1, _, s1⟩ := hd; obtain rfl := he
      simp only [repOk, Bool.and_eq_true, decide_eq_true_eq] at hm
      exact .inr (.inl ⟨a, k, vs, rfl, rfl, h1, hm.1.1, hm.1.2, by rw [s1.length]; exact hm.2, fun p hp => n.ml r (s1.flat _) (by rw [flat_len]; exact hm.2) hp⟩)
    · cases ho
theorem sMod : S2 T (rI (fun _ j => 0 < j) fun i j => .int (i % j)) modD := by
  intro Z H σ env v u d e w Q r hd he ho n
  cases d <;> cases e <;> try (simp [modD] at ho; done)
  rename_i i j
  simp only [modD] at ho
  split at ho
  · rename_i hm
    cases ho
    obtain rfl := hd; obtain rfl := he
    exact ⟨i, j, rfl, rfl, hm, n.sc r rfl⟩
  · cases ho
theorem sFdiv : S2 T (rI CDiv fun i j => .int (i / j)) fdivD := by
  intro Z H σ env v u d e w Q r hd he ho n
  cases d <;> cases e <;> try (simp [fdivD] at ho; done)
  rename_i i j
  simp only [fdivD] at ho
  split at ho
  · rename_i hm
    cases ho
    obtain rfl := hd; obtain rfl := he
    exact ⟨i, j, rfl, rfl, hm, n.sc r rfl⟩
  · cases ho
def ltD : D → D → Option W
  | .int i, .int j => some (.sh (.bl (decide (i < j))))
  | .str s, .str t => some (.sh (.bl (decide (s < t))))
  | _, _ => none
def leD : D → D → Option W
  | .int i, .int j => some (.sh (.bl (decide (i ≤ j))))
  | _, _ => none
def gtD : D → D → Option W
  | .int i, .int j => some (.sh (.bl (decide (j < i))))
  | _, _ => none
def geD : D → D → Option W
  | .int i, .int j => some (.sh (.bl (decide (j ≤ i))))
  | _, _ => none
def eqW (d e : D) : Option W := (eqD 60 d e).map fun b => .sh (.bl b)
def neW (d e : D) : Option W := (eqD 60 d e).map fun b => .sh (.bl (!b))
def rLtD : R2 := fun x y H Q => rI0 (fun i j => .bl (decide (i < j))) x y H Q ∨ ∃ i j, x = .str i ∧ y = .str j ∧ Q (.bl (decide (i.cps.toList < j.cps.toList))) H
theorem op_ltD : OpR X (compareOp .Lt) rLtD := op_lt.or op_lt_str
theorem sLt : S2 T rLtD ltD := by
  intro Z H σ env v u d e w Q r hd he ho n
  cases d <;> cases e <;> try (simp [ltD] at ho; done)
  · rename_i i j
    simp [ltD] at ho; subst ho
    obtain rfl := hd; obtain rfl := he
    exact .inl ⟨i, j, rfl, rfl, n.sc r rfl⟩
  · rename_i s t
    simp [ltD] at ho; subst ho
    obtain ⟨rfl, _⟩ := hd; obtain ⟨rfl, _⟩ := he
    exact .inr ⟨_, _, rfl, rfl, n.sc r (by simp [Sh])⟩
theorem sLe : S2 T (rI0 fun i j => .bl (decide (i ≤ j))) leD := by
  intro Z H σ env v u d e w Q r hd he ho n
  cases d <;> cases e <;> try (simp [leD] at ho; done)
  rename_i i j
  simp [leD] at ho; subst ho
  obtain rfl := hd; obtain rfl := he
  exact ⟨i, j, rfl, rfl, n.sc r rfl⟩
theorem sGt : S2 T (rI0 fun i j => .bl (decide (j < i))) gtD := by
  intro Z H σ env v u d e w Q r hd he ho n
  cases d <;> cases e <;> try (simp [gtD] at ho; done)
  rename_i i j
  simp [gtD] at ho; subst ho
  obtain rfl := hd; obtain rfl := he
  exact ⟨i, j, rfl, rfl, n.sc r rfl⟩
theorem sGe : S2 T (rI0 fun i j => .bl (decide (j ≤ i))) geD := by
  intro Z H σ env v u d e w Q r hd he ho n
  cases d <;> cases e <;> try (simp [geD] at ho; done)
  rename_i i j
  simp [geD] at ho; subst ho
  obtain rfl := hd; obtain rfl := he
  exact ⟨i, j, rfl, rfl, n.sc r rfl⟩
def rEqG (T : Cl) : R2 := fun x y H Q => ∃ d e b, Sh T H d x ∧ Sh T H e y ∧ eqD 60 d e = some b ∧ Q (.bl b) H
def rNeG (T : Cl) : R2 := fun x y H Q => ∃ d e b, Sh T H d x ∧ Sh T H e y ∧ eqD 60 d e = some b ∧ Q (.bl (!b)) H
theorem op_eqG (hu : X.A.units + 64 < cLine) : OpR X (compareOp .Eq) (rEqG T) := by
  intro pins s σ H x y v u Q I rx ry h
  obtain ⟨d, e, b, h1, h2, h3, q⟩ := h
  exact (eqAtD I 60 d e X.A x y v u b (by omega) h1 h2 rx ry h3).2.1 _ _ _ _ ⟨.bl b, H, I, rfl, q⟩
theorem op_neG (hu : X.A.units + 64 < cLine) : OpR X (compareOp .NotEq) (rNeG T) := by
  intro pins s σ H x y v u Q I rx ry h
  obtain ⟨d, e, b, h1, h2, h3, q⟩ := h
  exact (eqAtD I 60 d e X.A x y v u b (by omega) h1 h2 rx ry h3).2.2 _ _ _ _ ⟨.bl (!b), H, I, rfl, q⟩
theorem sEq : S2 T (rEqG T) eqW := by
  intro Z H σ env v u d e w Q r hd he ho n
  unfold eqW at ho
  cases q : eqD 60 d e with
  | none => rw [q] at ho; cases ho
  | some b => rw [q] at ho; cases ho; exact ⟨d, e, b, hd.sh r.ex, he.sh r.ex, q, n.sc r rfl⟩
theorem sNe : S2 T (rNeG T) neW := by
  intro Z H σ env v u d e w Q r hd he ho n
  unfold neW at ho
  cases q : eqD 60 d e with
  | none => rw [q] at ho; cases ho
  | some b => rw [q] at ho; cases ho; exact ⟨d, e, b, hd.sh r.ex, he.sh r.ex, q, n.sc r rfl⟩
def D.flat : D → Bool
  | .non => true
  | .bl _ => true
  | .int _ => true
  | .str _ => true
  | _ => false
def inB (x : D) (xs : List D) : Bool := xs.any fun y => (eqS y x).getD false
def inD : D → D → Option Bool
  | .str [c], .str s => some (decide (c ∈ s))
  | x, .lst xs => if x.flat && xs.all D.flat then some (inB x xs) else none
  | x, .tup xs => if x.flat && xs.all D.flat then some (inB x xs) else none
  | _, _ => none
def inW (x s : D) : Option W := (inD x s).map fun b => .sh (.bl b)
def niW (x s : D) : Option W := (inD x s).map fun b => .sh (.bl (!b))
theorem flat_sh {Z : Hp} {d : D} {v : V} (f : d.flat = true) (h : Sh T Z d v) : flatV v = true := by
  cases d <;> simp [D.flat] at f <;> simp [Sh] at h
  · subst h; rfl
  · subst h; rfl
  · subst h; rfl
  · obtain ⟨rfl, _⟩ := h; rfl
theorem eqV_sh {Z : Hp} {d e : D} {v u : V} (f : d.flat = true) (g : e.flat = true) (h : Sh T Z d v) (k : Sh T Z e u) : eqV v u = (eqS d e).getD false := by
  cases d <;> simp [D.flat] at f <;> cases e <;> simp [D.flat] at g <;> simp [Sh] at h k
  all_goals first
    | (subst h k; simp [eqV, eqS, D.kind]; done)
    | (obtain ⟨rfl, _⟩ := k; subst h; simp [eqV, eqS, D.kind]; done)
    | (obtain ⟨rfl, _⟩ := h; subst k; simp [eqV, eqS, D.kind]; done)
    | (obtain ⟨rfl, _⟩ := h; obtain ⟨rfl, _⟩ := k; simp only [eqV, eqS, Option.getD]; exact str_beq _ _)
theorem inV_sh {Z : Hp} {x : D} {v : V} (f : x.flat = true) (h : Sh T Z x v) : ∀ {xs : List D} {vs : List V}, xs.all D.flat = true → ShL T Z xs vs → inV v vs = inB x xs ∧ vs.all flatV = true
  | [], _, _, k => by rw [show _ = ([] : List V) from k]; exact ⟨rfl, rfl⟩
  | y :: ys, _, g, ⟨u, us, e, k1, k2⟩ => by
    simp only [List.all_cons, Bool.and_eq_true] at g
    obtain ⟨i1, i2⟩ := inV_sh f h g.2 k2
    subst e
    refine ⟨?_, by rw [List.all_cons, flat_sh g.1 k1, i2]; rfl⟩
    show (eqV u v || inV v us) = ((eqS y x).getD false || inB x ys)
    rw [i1, eqV_sh g.1 f k1 h]
def rInG (K : PySem.W.Frag) (neg : Bool) : R2 := fun x y H Q => rIn K neg x y H Q ∨ ∃ (c : Nat) (z : Str), x = .str ⟨#[c]⟩ ∧ y = .str z ∧ Q (.bl (if neg then !decide (c ∈ z.cps.toList) else decide (c ∈ z.cps.toList))) H
theorem op_inG : OpR X (compareOp .In) (rInG X.K false) := op_in_seq.or op_in_sign
theorem op_niG : OpR X (compareOp .NotIn) (rInG X.K true) := op_notIn_seq.or op_notIn_sign
theorem inG {neg : Bool} {Z H : Hp} {σ : St} {env : Env'} {v u : V} {d e : D} {b : Bool} {Q : VK} (r : REnv T Z H σ env) (hd : Vw T Z H d v) (he : Vw T Z H e u) (ho : inD d e = some b) (q : Q (.bl (if neg then !b else b)) H) : rInG X.K neg v u H Q := by
  have hd := hd.sh r.ex
  have he := he.sh r.ex
  unfold inD at ho
  split at ho
  · cases ho
    obtain ⟨rfl, _⟩ := hd; obtain ⟨rfl, _⟩ := he
    exact .inr ⟨_, _, rfl, rfl, by simpa using q⟩
  · split at ho
    · rename_i hf
      cases ho
      simp only [Bool.and_eq_true] at hf
      obtain ⟨a, vs, rfl, h1, _, s1⟩ := he
      obtain ⟨e1, e2⟩ := inV_sh hf.1 hd hf.2 s1
      exact .inl ⟨a, vs, rfl, .inl (SqL.of h1), flat_sh hf.1 hd, e2, by rw [e1]; exact q⟩
    · cases ho
  · split at ho
    · rename_i hf
      cases ho
      simp only [Bool.and_eq_true] at hf
      obtain ⟨a, vs, rfl, h1, _, s1⟩ := he
      obtain ⟨e1, e2⟩ := inV_sh hf.1 hd hf.2 s1
      exact .inl ⟨a, vs, rfl, .inr (SqT.of h1), flat_sh hf.1 hd, e2, by rw [e1]; exact q⟩
    · cases ho
  · cases ho
theorem sIn : S2 T (rInG X.K false) inW := by
  intro Z H σ env v u d e w Q r hd he ho n
  unfold inW at ho
  cases q : inD d e with
  | none => rw [q] at ho; cases ho
  | some b => rw [q] at ho; cases ho; exact inG r hd he q (n.sc r rfl)
theorem sNi : S2 T (rInG X.K true) niW := by
  intro Z H σ env v u d e w Q r hd he ho n
  unfold niW at ho
  cases q : inD d e with
  | none => rw [q] at ho; cases ho
  | some b => rw [q] at ho; cases ho; exact inG r hd he q (n.sc r rfl)
def ixD : D → D → Option W
  | .lst xs, .int i => (atI xs i).map .sh
  | .tup xs, .int i => (atI xs i).map .sh
  | .str s, .int i => (atI s i).map fun c => .sh (.str [c])
  | _, _ => none
theorem atI_sh {Z : Hp} {ds : List D} {vs : List V} {i : Int} {d : D} (h : ShL T Z ds vs) (k : atI ds i = some d) : ∃ v, atI vs i = some v ∧ Sh T Z d v := by
  unfold atI at k ⊢
  rw [h.length]
  cases e : ixN ds.length i with
  | none => rw [e] at k; cases k
  | some j =>
    rw [e] at k
    exact h.get (by simpa using k)
theorem sIxD : S2 T (rIx X.K) ixD := by
  intro Z H σ env v u d e w Q r hd he ho n
  cases d <;> cases e <;> try (simp [ixD] at ho; done)
  · rename_i s i
    simp only [ixD] at ho
    cases q : atI s i with
    | none => rw [q] at ho; cases ho
    | some c =>
      rw [q] at ho; cases ho
      obtain ⟨rfl, hl⟩ := hd; obtain rfl := he
      exact .inr (.inr ⟨_, i, c, rfl, rfl, by rw [str_len]; exact hl, by simpa using q, n.sc r ⟨rfl, show 1 ≤ 16777216 by decide⟩⟩)
  · rename_i xs i
    simp only [ixD] at ho
    cases q : atI xs i with
    | none => rw [q] at ho; cases ho
    | some c =>
      rw [q] at ho; cases ho
      obtain ⟨a, vs, rfl, h1, hl, s1⟩ := hd; obtain rfl := he
      obtain ⟨v, e1, e2⟩ := atI_sh s1 q
      exact .inr (.inl ⟨a, vs, i, v, rfl, rfl, SqT.of (r.ex _ _ h1), e1, n.sc r e2⟩)
  · rename_i xs i
    simp only [ixD] at ho
    cases q : atI xs i with
    | none => rw [q] at ho; cases ho
    | some c =>
      rw [q] at ho; cases ho
      obtain ⟨a, vs, rfl, h1, hl, s1⟩ := hd; obtain rfl := he
      obtain ⟨v, e1, e2⟩ := atI_sh s1 q
      exact .inl ⟨a, vs, i, v, rfl, rfl, SqL.of h1, e1, n.sc r e2⟩
end
end Wc
namespace Wc
open PySem L2
/-- a def keeps its promise, called where nothing is being written out -/
structure FnG (P : Program) (w : World) (K : PySem.W.Frag) (mg : Str → Option Value) (base : Heap) (k : Nat) (f : Addr) (fd : FuncData) (ps : List Str) (sp : Sp) : Prop where
  len : ∀ vs H Q E, sp vs H Q E → vs.length = ps.length
  run : ∀ (A : Around) (outer : List Env) (s : Shared) (H : Hp) (args : Args) (us : List Value) (vs : List V) (Q : VK) (E : XK), A.guards = some [] → Room k A → Env0 P w K mg base A outer s H →
    BindsTo s fd args (ps.zip us) → Vals vs us → sp vs H Q E → codeAny (model P w) A (.call (.ref f) args) (CR (L2.CX P w) outer P w H s Q E) s
theorem FnG.mono {P : Program} {w : World} {K : PySem.W.Frag} {mg : Str → Option Value} {base : Heap} {j k : Nat} {f : Addr} {fd : FuncData} {ps : List Str} {sp : Sp} (F : FnG P w K mg base j f fd ps sp) (h : j ≤ k) : FnG P w K mg base k f fd ps sp :=
  ⟨F.len, fun A outer s H args us vs Q E hg hr => F.run A outer s H args us vs Q E hg (hr.mono h)⟩
section
variable {X : Cx} {k : Nat} {f C : Addr} {fd : FuncData} {ps : List Str} {sp : Sp} {E : St → XK} {x m : Str} {p pos apos : Pos} {e o : Expr} {es : List Expr} {ta : TE} {t : TA}
theorem run_fnG {pins : List (Addr × Obj)} {σ : St} {H : Hp} {s : Shared} {Q : VK} {us : List Value} {vs : List V} (F : FnG X.prog X.w X.K X.mg X.base k f fd ps sp) (hgd : X.A.guards = some []) (hr : Room k X.A) (hb : Binds X.K fd ps [])
    (hx : PassesAt (L2.CX X.prog X.w) X σ (E σ)) (I : Inv X pins σ H s) (r : Vals vs us) (h : sp vs H Q (E σ)) : wpAny (model X.prog X.w) X.A (call (.ref f) us) (EP X pins σ Q) X.xe s := by
  have hl : (us ++ ([] : List Value)).length = ps.length := by rw [List.append_nil, ← r.length]; exact F.len _ _ _ _ h
  have bb := hb s us I.kIn hl
  rw [List.append_nil] at bb
  refine wpAny_call (codeAny_mono (F.run X.A X.stack s H ⟨us, []⟩ us vs Q (E σ) hgd hr I.env0 bb r h) fun r' s' hq => ?_)
  cases r' with
  | error e => exact hx pins H s e s' I hq
  | ok fl =>
    cases fl with
    | ret u => exact I.after hq
    | next => exact hq.elim
    | brk => exact hq.elim
    | cont => exact hq.elim
def tCallG (sp : Sp) (E : St → XK) (t : TA) : TE := fun σ H Q => t σ H fun vs H1 => sp vs H1 Q (E σ)
theorem pe_callG (F : FnG X.prog X.w X.K X.mg X.base k f fd ps sp) (hgd : X.A.guards = some []) (hr : Room k X.A) (hg : Gl X x) (hm : X.mg x = some (.ref f)) (hk : PySem.W.keepIn X.K (.ref f) = true) (hb : Binds X.K fd ps [])
    (hx : ∀ σ, PassesAt (L2.CX X.prog X.w) X σ (E σ)) (ha : PA X (e :: es) t) (hdb : (x == ("__debug__" : Str)) = false := by decide)
    (he : starEach (e :: es) X.env = (false, eval e X.env) :: starEach es X.env := by rfl) (hpl : (backTo pos (starEach es X.env)).any (·.1) = false := by rfl) : PE X (.Call (.Name x p) (e :: es) [] pos) (tCallG sp E t) := by
  refine ⟨fun pins s σ H Q I h => wpAny_Call_Name_kw (ld_glob I hg hm ?_ hdb)⟩
  exact PySem.W.callWith_K (h₀ := X.base) I.ok.mod.kin hk (thn (ha.run pos pins s σ H _ I h) fun us s1 ⟨vs, H1, I1, r, q⟩ => ⟨I1.kIn, run_fnG F hgd hr hb (hx σ) I1 r q⟩) he hpl
def tMethG (C : Addr) (m : Str) (sp : Sp) (E : St → XK) (ta : TE) (t : TA) : TE := fun σ H Q => ta σ H fun x H1 => ∃ a dx fs, x = .ref a ∧ H1 a = some (.ins C dx fs) ∧ fs.lookup m = none ∧ t σ H1 fun vs H2 => sp (.ref a :: vs) H2 Q (E σ)
theorem pe_methG {pl : Sem Bool} (he : PE X o ta) (c : Cls X.K C) (hm : Meth X.K C m f) (F : FnG X.prog X.w X.K X.mg X.base k f fd ps sp) (hgd : X.A.guards = some []) (hr : Room k X.A) (hb : Binds X.K fd ps []) (hx : ∀ σ, PassesAt (L2.CX X.prog X.w) X σ (E σ))
    (ha : PA X (e :: es) t) (hst : starEach (e :: es) X.env = (false, eval e X.env) :: starEach es X.env := by rfl) (hpl : (backTo pos (starEach es X.env)).any (·.1) = false := by rfl)
    (ht : eval (.Call (.Attribute o m apos) (e :: es) [] pos) X.env = (do
      let ov ← eval o X.env
      standAt apos.atName
      let (f, first) ← holding [ov] (getMethod ov m pl)
      callWith pos f first (backTo pos (starEach (e :: es) X.env)) (backToKw pos (keywordEach [] X.env))) := by rfl) :
    PE X (.Call (.Attribute o m apos) (e :: es) [] pos) (tMethG C m sp E ta t) := by
  refine ⟨fun pins s σ H Q I h => PySem.W.methodCall_KW (pl := pl) (thn (he.run pins s σ H _ I h) fun u s1 hz => ?_) ht⟩
  obtain ⟨x, H1, I1, rx, a, dx, fs, ex, ea, l, q⟩ := hz
  subst ex
  obtain rfl : u = Value.ref a := rx
  refine getmeth_ok I1 ea c hm l (PySem.W.callWith_K (first := [.ref a]) (h₀ := X.base) I.ok.mod.kin hm.kp (thn (ha.run pos pins s1 σ H1 _ I1 q) fun us s2 hz2 => ?_) hst hpl)
  obtain ⟨vs, H2, I2, r, q2⟩ := hz2
  exact ⟨I2.kIn, run_fnG (us := .ref a :: us) (vs := .ref a :: vs) F hgd hr hb (hx σ) I2 (.cons rfl r) q2⟩
theorem pe_meth0G {pl : Sem Bool} (he : PE X o ta) (c : Cls X.K C) (hm : Meth X.K C m f) (F : FnG X.prog X.w X.K X.mg X.base k f fd ps sp) (hgd : X.A.guards = some []) (hr : Room k X.A) (hb : Binds X.K fd ps []) (hx : ∀ σ, PassesAt (L2.CX X.prog X.w) X σ (E σ))
    (ht : eval (.Call (.Attribute o m apos) [] [] pos) X.env = (do
      let ov ← eval o X.env
      standAt apos.atName
      let (f, first) ← holding [ov] (getMethod ov m pl)
      callWith pos f first (backTo pos (starEach [] X.env)) (backToKw pos (keywordEach [] X.env))) := by rfl) :
    PE X (.Call (.Attribute o m apos) [] [] pos) (tMethG C m sp E ta tNil) := by
  refine ⟨fun pins s σ H Q I h => PySem.W.methodCall_KW (pl := pl) (thn (he.run pins s σ H _ I h) fun u s1 hz => ?_) ht⟩
  obtain ⟨x, H1, I1, rx, a, dx, fs, ex, ea, l, q⟩ := hz
  subst ex
  obtain rfl : u = Value.ref a := rx
  exact getmeth_ok I1 ea c hm l (PySem.W.callWith_K0 (first := [.ref a]) I1.kIn hm.kp (run_fnG (us := [.ref a]) (vs := [.ref a]) F hgd hr hb (hx σ) I1 (.cons rfl .nil) q))
def tMakeG (C : Addr) (sp : Sp) (E : St → XK) (t : TA) : TE := fun σ H Q => t σ H fun vs H1 => ∀ x dx, H1 x = none → H1 dx = none → dx ≠ x →
  sp (.ref x :: vs) (upd (upd H1 dx (.own x)) x (.ins C dx [])) (fun v H2 => v = .non ∧ Q (.ref x) H2) (E σ)
theorem make_guards {A : Around} {C : Addr} {us : List Value} {kw : List (Str × Value)} (h : A.guards = some []) : (A.under (.builtin "type.__call__" ⟨.ref C :: us, kw⟩)).guards = some [] := by
  first | exact h | (simp [Around.under, Code.isGuard, guardIds]; exact h)
theorem run_makeG {pins : List (Addr × Obj)} {σ : St} {H : Hp} {s : Shared} {Q : VK} {us : List Value} {vs : List V} (Mm : Mk X.K C f) (F : FnG X.prog X.w X.K X.mg X.base k f fd ps sp) (hgd : X.A.guards = some []) (hr : Room (k + 1) X.A) (hb : Binds X.K fd ps [])
    (hx : PassesAt (L2.CX X.prog X.w) X σ (E σ)) (I : Inv X pins σ H s) (r : Vals vs us)
    (h : ∀ x dx, H x = none → H dx = none → dx ≠ x → sp (.ref x :: vs) (upd (upd H dx (.own x)) x (.ins C dx [])) (fun v H2 => v = .non ∧ Q (.ref x) H2) (E σ)) : wpAny (model X.prog X.w) X.A (call (.ref C) us) (EP X pins σ Q) X.xe s := by
  have hq := h (s.heap.objs.size + 1) s.heap.objs.size (I.hok.fresh (Nat.le_succ _)) (I.hok.fresh (Nat.le_refl _)) (Nat.ne_of_lt (Nat.lt_succ_self _))
  have I2 := Inv.made (C := C) I
  have r2 : Vals (V.ref (s.heap.objs.size + 1) :: vs) (Value.ref (s.heap.objs.size + 1) :: us) := .cons rfl r
  have hl : ((Value.ref (s.heap.objs.size + 1) :: us) ++ ([] : List Value)).length = ps.length := by rw [List.append_nil, ← r2.length]; exact F.len _ _ _ _ hq
  have bb := hb _ (Value.ref (s.heap.objs.size + 1) :: us) I2.kIn hl
  rw [List.append_nil] at bb
  refine wpAny_call (make_map (f := f) I.kIn Mm.makes Mm.init (beq_iff_eq.mp Mm.fn) (codeAny_mono (F.run _ X.stack _ _ ⟨Value.ref (s.heap.objs.size + 1) :: us, []⟩ _ _ _ (E σ) (make_guards hgd) (hr.make C us []) (I2.env0.make C us []) bb r2 hq) fun r' s' hq' => ?_))
  cases r' with
  | error e => exact hx pins _ _ e s' I2 hq'
  | ok fl =>
    cases fl with
    | ret u =>
      obtain ⟨v, H', I3, rv, ev, q3⟩ := I2.after hq'
      subst ev
      exact ⟨rv, ⟨V.ref (s.heap.objs.size + 1), H', I3, rfl, q3⟩⟩
    | next => exact hq'.elim
    | brk => exact hq'.elim
    | cont => exact hq'.elim
theorem pe_makeG (Mm : Mk X.K C f) (F : FnG X.prog X.w X.K X.mg X.base k f fd ps sp) (hgd : X.A.guards = some []) (hr : Room (k + 1) X.A) (hg : Gl X x) (hm : X.mg x = some (.ref C)) (hb : Binds X.K fd ps []) (hx : ∀ σ, PassesAt (L2.CX X.prog X.w) X σ (E σ))
    (ha : PA X (e :: es) t) (hdb : (x == ("__debug__" : Str)) = false := by decide) (he : starEach (e :: es) X.env = (false, eval e X.env) :: starEach es X.env := by rfl) (hpl : (backTo pos (starEach es X.env)).any (·.1) = false := by rfl) :
    PE X (.Call (.Name x p) (e :: es) [] pos) (tMakeG C sp E t) := by
  refine ⟨fun pins s σ H Q I h => wpAny_Call_Name_kw (ld_glob I hg hm ?_ hdb)⟩
  exact PySem.W.callWith_K (h₀ := X.base) I.ok.mod.kin Mm.kp (thn (ha.run pos pins s σ H _ I h) fun us s1 ⟨vs, H1, I1, r, q⟩ => ⟨I1.kIn, run_makeG Mm F hgd hr hb (hx σ) I1 r q⟩) he hpl
end
open PyProof.Rows in
theorem fn_ofG {P : Program} {w : World} {K : PySem.W.Frag} {mg : Str → Option Value} {base : Heap} {k : Nat} {x qual : Str} {st : Stmt} {f : Addr} {fd : FuncData} {N ps : List Str} {sp : Sp} (F : Fun K x qual st f fd) (S : FnScope N ps (defScope st))
    (len : ∀ vs H Q E, sp vs H Q E → vs.length = ps.length)
    (hbody : ∀ (cdv : Value) (A : Around) (outer : List Env) (s : Shared) (H : Hp) (vs : List V) (Q : VK) (E : XK), A.guards = some [] → Room k (A.deeper (envOfC qual (defScope st) s.heap.objs.size f cdv)) → sp vs H Q E →
      ∃ t, PSs (cxOf (L2.CX P w) P w K mg base N qual (defScope st) f cdv A outer s H E) (defBody st) t ∧ t { nx := fun _ H' => Q .non H', rt := Q } (start N vs) H) : FnG P w K mg base (k + 1) f fd ps sp := by
  obtain ⟨oc, od, kV, doc, pm, an, cdv, ct, osl, rfl, lk, hcd⟩ := F.ex
  refine ⟨len, fun A outer s H args us vs Q E hg hr e0 hb r hsp => ?_⟩
  have inK : K.In s.heap := e0.mod.kin.keeps fun b o e => (e0.bs b o e).1
  have nl : s.heap.NoLimit := e0.mod.nolimit.keeps fun b o e => (e0.bs b o e).1
  have kinds : ∀ y ∈ ps.zip us, (defScope st).names.lookup y.1 = some .local ∨ ((defScope st).names.lookup y.1 = some .cell ∧ ((cellsFrom (s.heap.objs.size + 1) (defScope st).names []).lookup y.1).isSome = true) := by
    rintro ⟨n, v⟩ hy
    exact (S.par n (List.of_mem_zip hy).1).imp id fun q => ⟨q, PySem.W.cellsFrom_some _ _ _ (.inl q)⟩
  refine codeAny_call_function hr.depth (inK _ _ lk) rfl S.co S.gen rfl (PySem.W.codeRec_of inK hcd) (hb _ _ _ _ (wpAny_newFunctionEnv_cells S.kind kinds fun env he s1 y => ?_))
  subst he
  obtain ⟨t, ht, hq⟩ := hbody cdv A outer s H vs Q E hg (hr.deeper _) hsp
  have I : Inv (cxOf (L2.CX P w) P w K mg base N qual (defScope st) f cdv A outer s H E) [] (start N vs) H s1 := inv_start S hr.hd e0 (len _ _ _ _ hsp) r y
  refine ⟨nl.keeps y.toInCall.keep, codeAny_func (wpAny_mono (ht.run [] s1 (start N vs) H _ I hq) (fun fl s' hs => ?_) fun _ _ hs => hs)⟩
  cases fl with
  | ret u =>
    obtain ⟨v, σ', H', J, rv, q⟩ := hs
    exact ⟨v, H', J.os, J.bare, J.base, J.hok, rv, q⟩
  | next =>
    obtain ⟨σ', H', J, q⟩ := hs
    exact ⟨.non, H', J.os, J.bare, J.base, J.hok, rfl, q⟩
  | brk => exact (hs.elim fun _ z => z.elim fun _ z => z.2.elim)
  | cont => exact (hs.elim fun _ z => z.elim fun _ z => z.2.elim)
end Wc
namespace Wc
open PySem L2
/-- what a def of this function promises -/
def spF (T : Cl) (np : Nat) (f : M W) : Sp := fun vs H Q E => vs.length = np ∧ TF T (fun c d _ H' => E c d H') KW f (vs.map some) H Q
section
variable {T : Cl} {Z H Z' H' : Hp} {σ : St} {env : Env'} {i : Nat} {w : W} {v : V}
theorem REnv.hide (r : REnv T Z H σ env) : REnv T Z H σ (env.set i none) := by
  refine ⟨r.ex, by rw [List.length_set]; exact r.len, fun j u hj => ?_, fun j k u u' a ne h1 h2 => ?_⟩
  · have e : i ≠ j := fun e => by subst e; rw [List.getElem?_set] at hj; simp at hj
    rw [List.getElem?_set_ne e] at hj
    exact r.at_ j u hj
  · have e1 : i ≠ j := fun e => by subst e; rw [List.getElem?_set] at h1; simp at h1
    have e2 : i ≠ k := fun e => by subst e; rw [List.getElem?_set] at h2; simp at h2
    rw [List.getElem?_set_ne e1] at h1
    rw [List.getElem?_set_ne e2] at h2
    exact r.sep j k u u' a ne h1 h2
theorem Owns.hide {a : Addr} (h : Owns σ (env.set i none) a) : Owns σ env a := by
  rcases h.set_sub with z | ⟨u, e, _⟩
  · exact z
  · cases e
theorem REnv.hidden (r : REnv T Z H σ env) {a : Addr} (h : env[i]? = some (some w)) (ho : w.own = true) (hv : σ[i]? = some (some (V.ref a))) : ¬ Owns σ (env.set i none) a := by
  rintro ⟨j, u, h1, h2, h3⟩
  have e : i ≠ j := fun e => by subst e; rw [List.getElem?_set] at h1; simp at h1
  rw [List.getElem?_set_ne e] at h1
  exact r.sep i j w u a e h h1 ho h2 hv h3
theorem REnv.ins (r : REnv T Z H σ env) (hv : σ[i]? = some (some v)) (he : env[i]? = some none) (hw : Rw T Z H w v) (hn : w.own = true → ∀ a, v = .ref a → ¬ Owns σ env a) : REnv T Z H σ (env.set i (some w)) := by
  have at_i : ∀ {u : W}, (env.set i (some w))[i]? = some (some u) → u = w := fun {u} hj => by
    rw [List.getElem?_set] at hj
    simp at hj
    exact hj.2.symm
  refine ⟨r.ex, by rw [List.length_set]; exact r.len, fun j u hj => ?_, fun j k u u' a ne h1 h2 o1 o2 s1 s2 => ?_⟩
  · by_cases e : i = j
    · subst e
      have := at_i hj
      subst this
      exact ⟨v, hv, hw⟩
    · rw [List.getElem?_set_ne e] at hj
      exact r.at_ j u hj
  · by_cases e : i = j
    · subst e
      have := at_i h1
      subst this
      rw [List.getElem?_set_ne ne] at h2
      rw [hv] at s1
      exact hn o1 a (by cases s1; rfl) ⟨k, u', h2, o2, s2⟩
    · rw [List.getElem?_set_ne e] at h1
      by_cases e2 : i = k
      · subst e2
        have := at_i h2
        subst this
        rw [hv] at s2
        exact hn o2 a (by cases s2; rfl) ⟨j, u, h1, o1, s1⟩
      · rw [List.getElem?_set_ne e2] at h2
        exact r.sep j k u u' a ne h1 h2 o1 o2 s1 s2
end
abbrev Ag := Sum Nat D
/-- each argument a name (looked at when all are there) or an expression -/
def evA : List (Sum Nat (M D)) → M (List Ag)
  | [] => M.pure []
  | .inl i :: r => pk i >>= fun _ => evA r >>= fun xs => M.pure (.inl i :: xs)
  | .inr f :: r => f >>= fun d => evA r >>= fun xs => M.pure (.inr d :: xs)
def AgR (T : Cl) (Z : Hp) (σ : St) : List Ag → List V → Prop
  | [], vs => vs = []
  | .inl i :: r, vs => ∃ v q, vs = v :: q ∧ σ[i]? = some (some v) ∧ AgR T Z σ r q
  | .inr d :: r, vs => ∃ v q, vs = v :: q ∧ Sh T Z d v ∧ AgR T Z σ r q
theorem AgR.mono {T : Cl} {Z Z' : Hp} {σ : St} (e : Ex Z Z') : ∀ {xs : List Ag} {vs : List V}, AgR T Z σ xs vs → AgR T Z' σ xs vs
  | [], _, h => h
  | .inl _ :: _, _, ⟨v, q, h1, h2, h3⟩ => ⟨v, q, h1, h2, AgR.mono e h3⟩
  | .inr d :: _, _, ⟨v, q, h1, h2, h3⟩ => ⟨v, q, h1, Sh.mono e d v h2, AgR.mono e h3⟩
def KA (σ : St) : Kind (List Ag) (List V) := ⟨fun T Z _ vs xs => AgR T Z σ xs vs, fun _ _ _ => False⟩
inductive PArgs (X : Cx) (T : Cl) (Wx : WX) : List Expr → List (Sum Nat (M D)) → TA → Prop
  | nil : PArgs X T Wx [] [] tNil
  | var {e : Expr} {es : List Expr} {i : Nat} {r : List (Sum Nat (M D))} {t : TA} : PE X e (tVar i) → PArgs X T Wx es r t → starEach (e :: es) X.env = (false, eval e X.env) :: starEach es X.env → PArgs X T Wx (e :: es) (.inl i :: r) (tCons (tVar i) t)
  | val {e : Expr} {es : List Expr} {f : M D} {r : List (Sum Nat (M D))} {t : TA} : PE X e (TF T Wx KD f) → PArgs X T Wx es r t → starEach (e :: es) X.env = (false, eval e X.env) :: starEach es X.env → PArgs X T Wx (e :: es) (.inr f :: r) (tCons (TF T Wx KD f) t)
theorem PArgs.pa {X : Cx} {T : Cl} {Wx : WX} {es : List Expr} {r : List (Sum Nat (M D))} {t : TA} (h : PArgs X T Wx es r t) : PA X es t := by
  induction h with
  | nil => exact pa_nil
  | var h1 _ h3 ih => exact pa_cons h1 ih h3
  | val h1 _ h3 ih => exact pa_cons h1 ih h3
theorem PArgs.rd {X : Cx} {T : Cl} {Wx : WX} {es : List Expr} {r : List (Sum Nat (M D))} {t : TA} (h : PArgs X T Wx es r t) : ∀ {σ : St} {H : Hp} {Q : List V → Hp → Prop}, TF T Wx (KA σ) (evA r) σ H Q → t σ H Q := by
  induction h with
  | nil =>
    intro σ H Q ⟨Z, env, r0, p⟩
    exact p Z H [] ((Adv.refl (O := Owns σ env) r0.ex).weak fun y hy => hy.elim id fun z => z.elim) r0 rfl fun _ z => z.elim
  | @var e es i r t h1 _ h3 ih =>
    intro σ H Q ⟨Z, env, r0, p⟩
    have p : Post T Wx (KA σ) σ (Owns σ env) Z H ((pk i env).bind fun _ => evA r >>= fun xs => M.pure (.inl i :: xs)) Q := p
    cases q : env[i]? with
    | none => simp only [pk, q, R.bind] at p; exact p.elim
    | some ow =>
      cases ow with
      | none => simp only [pk, q, R.bind] at p; exact p.elim
      | some w0 =>
        simp only [pk, q, R.bind] at p
        obtain ⟨v, hv, hw⟩ := r0.at_ i w0 q
        refine ⟨v, hv, ih ?_⟩
        have q2 : TF T Wx (KA σ) (evA r >>= fun xs => M.pure (.inl i :: xs)) σ H Q := ⟨Z, env, r0, p⟩
        refine TF.bind q2 fun Z1 H1 vs xs env1 r1 s1 _ p1 => ?_
        exact p1 Z1 H1 (v :: vs) ((Adv.refl (O := fun a => Owns σ env1 a ∨ (KA σ).ext vs xs a) r1.ex).weak fun y hy => .inl (hy.elim id fun z => z.elim)) r1 ⟨v, vs, rfl, hv, s1⟩ fun _ z => z.elim
  | @val e es f r t h1 _ h3 ih =>
    intro σ H Q q0
    refine TF.bind q0 fun Z1 H1 v d env1 r1 s1 _ p1 => ih ?_
    have p1 := p1.later ((Adv.refl (O := fun a => Owns σ env1 a ∨ KD.ext v d a) r1.ex).weak (O2 := Owns σ env1) fun y hy => .inl hy)
    refine ⟨Z1, env1, r1, ?_⟩
    have p1 : Post T Wx (KA σ) σ (Owns σ env1) Z1 H1 ((evA r env1).bind fun xs => M.pure (.inr d :: xs)) Q := p1
    cases e2 : evA r env1 with
    | ok xs env2 =>
      rw [e2] at p1
      intro Z2 H2 vs a2 r2 s2 _
      exact p1 Z2 H2 (v :: vs) (a2.trans ((Adv.refl (O := fun a => Owns σ env2 a ∨ (KA σ).ext vs xs a) r2.ex).weak fun y hy => .inl (hy.elim id fun z => z.elim))) r2 ⟨v, vs, rfl, Sh.mono a2.zz d v s1, s2⟩ fun _ z => z.elim
    | exc c ns ds env2 => rw [e2] at p1; exact p1
    | bad => rw [e2] at p1; exact p1
def getA (env : Env') : List Ag → Option (List W)
  | [] => some []
  | .inl i :: r => match env[i]? with
    | some (some w) => (getA (env.set i none) r).map (w :: ·)
    | _ => none
  | .inr d :: r => (getA env r).map (.sh d :: ·)
/-- the names' slots, emptied -/
def hidA : List Ag → Env' → Env'
  | [], env => env
  | .inl i :: r, env => hidA r (env.set i none)
  | .inr _ :: r, env => hidA r env
/-- the names' slots, filled with what the callee left -/
def putA : List Ag → Env' → Env' → Env'
  | .inl i :: r, o :: es, env => putA r es (env.set i o)
  | .inr _ :: r, _ :: es, env => putA r es env
  | _, _, env => env
section
variable {T : Cl} {σ : St}
theorem hidA_sub : ∀ {xs : List Ag} {env : Env'} {a : Addr}, Owns σ (hidA xs env) a → Owns σ env a
  | [], _, _, h => h
  | .inl i :: r, env, a, h => (hidA_sub (xs := r) h).hide
  | .inr _ :: r, env, a, h => hidA_sub (xs := r) h
theorem hidA_none : ∀ {xs : List Ag} {env : Env'} {j : Nat}, env[j]? = some none → (hidA xs env)[j]? = some none
  | [], _, _, h => h
  | .inl i :: r, env, j, h => by
    refine hidA_none (xs := r) ?_
    by_cases e : i = j
    · subst e; rw [List.getElem?_set]; simp; exact (List.getElem?_eq_some_iff.mp h).1
    · rw [List.getElem?_set_ne e]; exact h
  | .inr _ :: r, env, j, h => hidA_none (xs := r) h
/-- the names among the arguments, and what the callee gets -/
theorem getA_ok {Z H : Hp} : ∀ {xs : List Ag} {env : Env'} {vs : List V} {ws : List W}, REnv T Z H σ env → AgR T Z σ xs vs → getA env xs = some ws →
    REnv T Z H (vs.map some) (ws.map some) ∧ (∀ a, Owns (vs.map some) (ws.map some) a → Owns σ env a ∧ ¬ Owns σ (hidA xs env) a) ∧ REnv T Z H σ (hidA xs env)
  | [], env, vs, ws, r, h, g => by
    rw [show vs = [] from h]
    simp [getA] at g; subst g
    exact ⟨⟨r.ex, rfl, fun i w e => by simp at e, fun i j w u a _ e => by simp at e⟩, fun a ⟨i, w, e, _⟩ => by simp at e, r⟩
  | .inl i :: xs, env, vs, ws, r, ⟨v, q, e, hv, h⟩, g => by
    subst e
    simp only [getA] at g
    cases ei : env[i]? with
    | none => rw [ei] at g; cases g
    | some ow =>
      cases ow with
      | none => rw [ei] at g; cases g
      | some w =>
        rw [ei] at g
        simp only at g
        cases eg : getA (env.set i none) xs with
        | none => rw [eg] at g; cases g
        | some us =>
          rw [eg] at g
          have g : w :: us = ws := by simpa using g
          subst g
          obtain ⟨r1, o1, r2⟩ := getA_ok (r.hide (i := i)) h eg
          obtain ⟨v', hv', hw⟩ := r.at_ i w ei
          rw [hv] at hv'; cases hv'
          refine ⟨⟨r.ex, by simp [show us.length = q.length from by simpa using r1.len], fun j u hj => ?_, fun j k u u' a ne h1 h2 w1 w2 s1 s2 => ?_⟩, fun a ⟨j, u, h1, w1, s1⟩ => ?_, r2⟩
          · cases j with
            | zero => simp at hj; subst hj; exact ⟨v, by simp, hw⟩
            | succ j =>
              obtain ⟨x, y1, y2⟩ := r1.at_ j u (by simpa using hj)
              exact ⟨x, by simpa using y1, y2⟩
          · have first : ∀ (j : Nat) (u : W), (us.map some)[j]? = some (some u) → u.own = true → (q.map some)[j]? = some (some (V.ref a)) → w.own = true → v = .ref a → False := fun j u g1 g2 g3 g4 g5 => by
              have z := (o1 a ⟨j, u, g1, g2, g3⟩).1
              exact r.hidden ei g4 (by rw [hv, g5]) z
            cases j with
            | zero =>
              cases k with
              | zero => exact ne rfl
              | succ k =>
                simp at h1 s1; subst h1
                exact first k u' (by simpa using h2) w2 (by simpa using s2) w1 s1
            | succ j =>
              cases k with
              | zero =>
                simp at h2 s2; subst h2
                exact first j u (by simpa using h1) w1 (by simpa using s1) w2 s2
              | succ k => exact r1.sep j k u u' a (by omega) (by simpa using h1) (by simpa using h2) w1 w2 (by simpa using s1) (by simpa using s2)
          · cases j with
            | zero =>
              simp at h1 s1; subst h1
              exact ⟨⟨i, w, ei, w1, by rw [hv, s1]⟩, fun z => r.hidden ei w1 (by rw [hv, s1]) (hidA_sub z)⟩
            | succ j =>
              have z := o1 a ⟨j, u, by simpa using h1, w1, by simpa using s1⟩
              exact ⟨z.1.hide, z.2⟩
  | .inr d :: xs, env, vs, ws, r, ⟨v, q, e, hv, h⟩, g => by
    subst e
    simp only [getA] at g
    cases eg : getA env xs with
    | none => rw [eg] at g; cases g
    | some us =>
      rw [eg] at g
      have g : W.sh d :: us = ws := by simpa using g
      subst g
      obtain ⟨r1, o1, r2⟩ := getA_ok r h eg
      refine ⟨⟨r.ex, by simp [show us.length = q.length from by simpa using r1.len], fun j u hj => ?_, fun j k u u' a ne h1 h2 w1 w2 s1 s2 => ?_⟩, fun a ⟨j, u, h1, w1, s1⟩ => ?_, r2⟩
      · cases j with
        | zero => simp at hj; subst hj; exact ⟨v, by simp, hv⟩
        | succ j =>
          obtain ⟨x, y1, y2⟩ := r1.at_ j u (by simpa using hj)
          exact ⟨x, by simpa using y1, y2⟩
      · cases j with
        | zero => simp at h1; subst h1; simp [W.own] at w1
        | succ j =>
          cases k with
          | zero => simp at h2; subst h2; simp [W.own] at w2
          | succ k => exact r1.sep j k u u' a (by omega) (by simpa using h1) (by simpa using h2) w1 w2 (by simpa using s1) (by simpa using s2)
      · cases j with
        | zero => simp at h1; subst h1; simp [W.own] at w1
        | succ j => exact o1 a ⟨j, u, by simpa using h1, w1, by simpa using s1⟩
/-- behind the call the slots are filled again -/
theorem putA_ok {Z H : Hp} : ∀ {xs : List Ag} {env : Env'} {vs : List V} {es : Env'}, AgR T Z σ xs vs → REnv T Z H (vs.map some) es → REnv T Z H σ env → (∀ i, .inl i ∈ xs → env[i]? = some none) → (xs.filterMap fun x => x.getLeft?).Nodup →
    (∀ a, Owns (vs.map some) es a → ¬ Owns σ env a) → REnv T Z H σ (putA xs es env) ∧ ∀ a, Owns σ (putA xs es env) a → Owns σ env a ∨ Owns (vs.map some) es a
  | [], env, vs, es, h, r, r0, _, _, _ => by
    have : putA [] es env = env := by unfold putA; rfl
    rw [this]
    exact ⟨r0, fun a h => .inl h⟩
  | .inl i :: xs, env, vs, es, ⟨v, q, e, hv, h⟩, r, r0, hn, nd, dj => by
    subst e
    cases es with
    | nil => exact absurd r.len (by simp)
    | cons o es =>
      have rt : REnv T Z H (q.map some) es := ⟨r.ex, by have := r.len; simpa using this, fun j u hj => by
        obtain ⟨x, y1, y2⟩ := r.at_ (j + 1) u (by simpa using hj)
        exact ⟨x, by simpa using y1, y2⟩, fun j k u u' a ne h1 h2 w1 w2 s1 s2 => r.sep (j + 1) (k + 1) u u' a (by omega) (by simpa using h1) (by simpa using h2) w1 w2 (by simpa using s1) (by simpa using s2)⟩
      have nd1 : i ∉ xs.filterMap (fun x => x.getLeft?) ∧ (xs.filterMap fun x => x.getLeft?).Nodup := by
        have : (i :: xs.filterMap fun x => x.getLeft?).Nodup := by simpa using nd
        exact List.nodup_cons.mp this
      have ne_i : ∀ j, Sum.inl j ∈ xs → i ≠ j := fun j hj z => nd1.1 (List.mem_filterMap.mpr ⟨.inl j, hj, by simp [z]⟩)
      show REnv T Z H σ (putA xs es (env.set i o)) ∧ _
      cases o with
      | none =>
        have r1 := r0.hide (i := i)
        obtain ⟨a1, a2⟩ := putA_ok (es := es) h rt r1 (fun j hj => by rw [List.getElem?_set_ne (ne_i j hj)]; exact hn j (List.mem_cons_of_mem _ hj)) nd1.2 fun a ⟨j, u, h1, w1, s1⟩ z => dj a ⟨j + 1, u, by simpa using h1, w1, by simpa using s1⟩ z.hide
        refine ⟨a1, fun a z => (a2 a z).imp (fun z => z.hide) fun ⟨j, u, h1, w1, s1⟩ => ⟨j + 1, u, by simpa using h1, w1, by simpa using s1⟩⟩
      | some w =>
        obtain ⟨x, y1, y2⟩ := r.at_ 0 w (by simp)
        have hx : x = v := by simpa using y1.symm
        subst hx
        have r1 := r0.ins hv (hn i List.mem_cons_self) y2 fun ow a ea => dj a ⟨0, w, by simp, ow, by simp [ea]⟩
        obtain ⟨a1, a2⟩ := putA_ok (es := es) h rt r1 (fun j hj => by rw [List.getElem?_set_ne (ne_i j hj)]; exact hn j (List.mem_cons_of_mem _ hj)) nd1.2 fun a ⟨j, u, h1, w1, s1⟩ z => by
          rcases z.set_sub with z | ⟨u', e1, e2, e3⟩
          · exact dj a ⟨j + 1, u, by simpa using h1, w1, by simpa using s1⟩ z
          · cases e1
            rw [hv] at e3
            exact r.sep 0 (j + 1) w u a (by omega) (by simp) (by simpa using h1) e2 w1 (by simpa using e3) (by simpa using s1)
        refine ⟨a1, fun a z => ?_⟩
        rcases a2 a z with z | ⟨j, u, h1, w1, s1⟩
        · rcases z.set_sub with z | ⟨u', e1, e2, e3⟩
          · exact .inl z
          · cases e1
            rw [hv] at e3
            exact .inr ⟨0, w, by simp, e2, by simpa using e3⟩
        · exact .inr ⟨j + 1, u, by simpa using h1, w1, by simpa using s1⟩
  | .inr d :: xs, env, vs, es, ⟨v, q, e, hv, h⟩, r, r0, hn, nd, dj => by
    subst e
    cases es with
    | nil => exact absurd r.len (by simp)
    | cons o es =>
      have rt : REnv T Z H (q.map some) es := ⟨r.ex, by have := r.len; simpa using this, fun j u hj => by
        obtain ⟨x, y1, y2⟩ := r.at_ (j + 1) u (by simpa using hj)
        exact ⟨x, by simpa using y1, y2⟩, fun j k u u' a ne h1 h2 w1 w2 s1 s2 => r.sep (j + 1) (k + 1) u u' a (by omega) (by simpa using h1) (by simpa using h2) w1 w2 (by simpa using s1) (by simpa using s2)⟩
      show REnv T Z H σ (putA xs es env) ∧ _
      obtain ⟨a1, a2⟩ := putA_ok (es := es) h rt r0 (fun j hj => hn j (List.mem_cons_of_mem _ hj)) (by exact nd) fun a ⟨j, u, h1, w1, s1⟩ z => dj a ⟨j + 1, u, by simpa using h1, w1, by simpa using s1⟩ z
      exact ⟨a1, fun a z => (a2 a z).imp id fun ⟨j, u, h1, w1, s1⟩ => ⟨j + 1, u, by simpa using h1, w1, by simpa using s1⟩⟩
theorem getA_slots {env : Env'} : ∀ {xs : List Ag} {env : Env'} {ws : List W}, getA env xs = some ws → (xs.filterMap fun x => x.getLeft?).Nodup ∧ ∀ i, .inl i ∈ xs → (hidA xs env)[i]? = some none
  | [], env, ws, g => ⟨by simp, fun i h => by simp at h⟩
  | .inl i :: xs, env, ws, g => by
    simp only [getA] at g
    cases ei : env[i]? with
    | none => rw [ei] at g; cases g
    | some ow =>
      cases ow with
      | none => rw [ei] at g; cases g
      | some w =>
        rw [ei] at g
        simp only at g
        cases eg : getA (env.set i none) xs with
        | none => rw [eg] at g; cases g
        | some us =>
          obtain ⟨h1, h2⟩ := getA_slots (env := env) eg
          have hi : (env.set i none)[i]? = some none := by rw [List.getElem?_set]; simp; exact (List.getElem?_eq_some_iff.mp ei).1
          have miss : ∀ {ys : List Ag} {en : Env'} {zs : List W}, getA en ys = some zs → en[i]? = some none → Sum.inl i ∉ ys := by
            intro ys
            induction ys with
            | nil => intro en zs _ _ h; simp at h
            | cons y ys ih =>
              intro en zs gg h0 h
              cases y with
              | inl j =>
                simp only [getA] at gg
                by_cases e : j = i
                · subst e; rw [h0] at gg; cases gg
                · cases ej : en[j]? with
                  | none => rw [ej] at gg; cases gg
                  | some oj =>
                    cases oj with
                    | none => rw [ej] at gg; cases gg
                    | some wj =>
                      rw [ej] at gg
                      simp only at gg
                      cases eg2 : getA (en.set j none) ys with
                      | none => rw [eg2] at gg; cases gg
                      | some us2 =>
                        refine ih eg2 (by rw [List.getElem?_set_ne e]; exact h0) ?_
                        rcases List.mem_cons.mp h with z | z
                        · cases z; exact absurd rfl e
                        · exact z
              | inr d =>
                simp only [getA] at gg
                cases eg2 : getA en ys with
                | none => rw [eg2] at gg; cases gg
                | some us2 =>
                  refine ih eg2 h0 ?_
                  rcases List.mem_cons.mp h with z | z
                  · cases z
                  · exact z
          refine ⟨?_, fun j hj => ?_⟩
          · have : (i :: xs.filterMap fun x => x.getLeft?).Nodup := List.nodup_cons.mpr ⟨fun z => ?_, h1⟩
            · simpa using this
            · obtain ⟨y, y1, y2⟩ := List.mem_filterMap.mp z
              cases y with
              | inl j => simp at y2; subst y2; exact miss eg hi y1
              | inr d => simp at y2
          · rcases List.mem_cons.mp hj with z | z
            · cases z; exact hidA_none (xs := xs) hi
            · exact h2 j z
  | .inr d :: xs, env, ws, g => by
    simp only [getA] at g
    cases eg : getA env xs with
    | none => rw [eg] at g; cases g
    | some us =>
      obtain ⟨h1, h2⟩ := getA_slots (env := env) eg
      exact ⟨by exact h1, fun j hj => by
        rcases List.mem_cons.mp hj with z | z
        · cases z
        · exact h2 j z⟩
end
end Wc
namespace Wc
open PySem L2
theorem Adv.wid {O O' P : Addr → Prop} {Z H Z' H' : Hp} (a : Adv O Z H O' Z' H') (h : ∀ x, P x → O x) : Adv O Z H (fun x => O' x ∨ P x) Z' H' :=
  ⟨a.zz, a.zh, a.fr, fun x hx => hx.elim (a.ow x) fun z => .inl (h x z), a.nz⟩
def apA (xs : List Ag) (f : M W) : M W := fun env => match getA env xs with
  | none => .bad
  | some ws => match f (ws.map some) with
    | .ok w es => .ok w (putA xs es (hidA xs env))
    | .exc c ns ds es => .exc c ns ds (putA xs es (hidA xs env))
    | .bad => .bad
def callM (as : List (Sum Nat (M D))) (f : M W) : M W := evA as >>= fun xs => apA xs f
section
variable {X : Cx} {T : Cl} {Wx : WX} {σ : St} {Z H : Hp} {env : Env'} {xs : List Ag} {vs : List V} {f : M W} {Q : VK}
/-- the callee's end and the caller's slots -/
theorem back {ws : List W} {Z' H' : Hp} {es : Env'} {P : Addr → Prop} (r : REnv T Z H σ env) (ar : AgR T Z σ xs vs) (g : getA env xs = some ws)
    (adv : Adv (Owns (vs.map some) (ws.map some)) Z H (fun a => Owns (vs.map some) es a ∨ P a) Z' H') (r' : REnv T Z' H' (vs.map some) es) (hp : ∀ a, P a → ¬ Owns (vs.map some) es a) :
    Adv (Owns σ env) Z H (fun a => Owns σ (putA xs es (hidA xs env)) a ∨ P a) Z' H' ∧ REnv T Z' H' σ (putA xs es (hidA xs env)) ∧ ∀ a, P a → ¬ Owns σ (putA xs es (hidA xs env)) a := by
  obtain ⟨r1, o1, r2⟩ := getA_ok r ar g
  obtain ⟨nd, hn⟩ := getA_slots (env := env) g
  have hid : ∀ a, (Owns (vs.map some) es a ∨ P a) → ¬ Owns σ (hidA xs env) a := fun a h z => by
    rcases adv.ow a h with q | q
    · exact (o1 a q).2 z
    · obtain ⟨_, o, e⟩ := r2.ownZ z
      rw [q] at e; cases e
  have r3 : REnv T Z' H' σ (hidA xs env) := r2.step adv fun p hp q => (o1 p q).2 hp
  obtain ⟨r4, o4⟩ := putA_ok (es := es) (AgR.mono adv.zz ar) r' r3 hn nd fun a h => hid a (.inl h)
  refine ⟨((adv.more fun a h => (o1 a h).1).wid (P := Owns σ (hidA xs env)) fun a h => hidA_sub h).weak fun a h => ?_, r4, fun a h z => ?_⟩
  · rcases h with h | h
    · rcases o4 a h with q | q
      · exact .inr q
      · exact .inl (.inl q)
    · exact .inl (.inr h)
  · rcases o4 a z with q | q
    · exact hid a (.inr h) q
    · exact hp a h q
theorem AgR.length : ∀ {xs : List Ag} {vs : List V}, AgR T Z σ xs vs → vs.length = xs.length
  | [], _, h => by rw [show _ = ([] : List V) from h]; rfl
  | .inl _ :: _, _, ⟨v, q, h1, _, h3⟩ => by rw [h1, List.length_cons, List.length_cons, AgR.length h3]
  | .inr _ :: _, _, ⟨v, q, h1, _, h3⟩ => by rw [h1, List.length_cons, List.length_cons, AgR.length h3]
theorem apA_ok (r : REnv T Z H σ env) (ar : AgR T Z σ xs vs) (p : Post T Wx KW σ (Owns σ env) Z H (apA xs f env) Q) : TF T (fun c d _ H' => Wx c d σ H') KW f (vs.map some) H Q := by
  unfold apA at p
  cases g : getA env xs with
  | none => rw [g] at p; exact p.elim
  | some ws =>
    rw [g] at p
    simp only at p
    refine ⟨Z, ws.map some, (getA_ok r ar g).1, ?_⟩
    cases e : f (ws.map some) with
    | ok w es =>
      rw [e] at p
      intro Z' H' v adv r' k x
      obtain ⟨b1, b2, b3⟩ := back r ar g adv r' x
      exact p Z' H' v b1 b2 k b3
    | exc c ns ds es =>
      rw [e] at p
      intro Z' H' cls dd adv r' k
      obtain ⟨b1, b2, _⟩ := back (P := fun _ => False) r ar g (adv.weak fun a h => h.elim id fun z => z.elim) r' fun a z => z.elim
      exact p Z' H' cls dd (b1.weak fun a h => .inl h) b2 k
    | bad => rw [e] at p; exact p
variable {k np : Nat} {fa : Addr} {fd : FuncData} {ps : List Str} {x m : Str} {pp pos apos : Pos} {e o : Expr} {es : List Expr} {as : List (Sum Nat (M D))} {t : TA}
theorem apA_np : ∀ {as : List (Sum Nat (M D))} {xs : List Ag} {env env' : Env'}, evA as env = .ok xs env' → xs.length = as.length
  | [], xs, env, env', h => by
    have : (.ok [] env : R (List Ag)) = .ok xs env' := h
    cases this; rfl
  | .inl i :: r, xs, env, env', h => by
    have h : (((pk i) env).bind fun _ => evA r >>= fun xs => M.pure (.inl i :: xs)) = .ok xs env' := h
    cases e1 : pk i env with
    | ok d e2 =>
      rw [e1] at h
      have h : ((evA r e2).bind fun xs => M.pure (.inl i :: xs)) = .ok xs env' := h
      cases e3 : evA r e2 with
      | ok ys e4 =>
        rw [e3] at h
        have h : (.ok (.inl i :: ys) e4 : R (List Ag)) = .ok xs env' := h
        cases h
        rw [List.length_cons, List.length_cons, apA_np e3]
      | exc _ _ _ _ => rw [e3] at h; cases h
      | bad => rw [e3] at h; cases h
    | exc _ _ _ _ => rw [e1] at h; cases h
    | bad => rw [e1] at h; cases h
  | .inr f :: r, xs, env, env', h => by
    have h : ((f env).bind fun d => evA r >>= fun xs => M.pure (.inr d :: xs)) = .ok xs env' := h
    cases e1 : f env with
    | ok d e2 =>
      rw [e1] at h
      have h : ((evA r e2).bind fun xs => M.pure (.inr d :: xs)) = .ok xs env' := h
      cases e3 : evA r e2 with
      | ok ys e4 =>
        rw [e3] at h
        have h : (.ok (.inr d :: ys) e4 : R (List Ag)) = .ok xs env' := h
        cases h
        rw [List.length_cons, List.length_cons, apA_np e3]
      | exc _ _ _ _ => rw [e3] at h; cases h
      | bad => rw [e3] at h; cases h
    | exc _ _ _ _ => rw [e1] at h; cases h
    | bad => rw [e1] at h; cases h
/-- arguments, then something with them -/
theorem args_then {α : Type} {κ : Kind α V} {g : List Ag → M α} {t : TA} {R' : List V → Hp → Prop} (A : PArgs X T Wx es as t) (q : TF T Wx κ (evA as >>= g) σ H Q)
    (k : ∀ Z1 H1 vs xs env1, xs.length = as.length → REnv T Z1 H1 σ env1 → AgR T Z1 σ xs vs → Post T Wx κ σ (Owns σ env1) Z1 H1 (g xs env1) Q → R' vs H1) : t σ H R' := by
  refine A.rd ?_
  obtain ⟨Z, env, r, p⟩ := q
  refine ⟨Z, env, r, ?_⟩
  have p : Post T Wx κ σ (Owns σ env) Z H ((evA as env).bind g) Q := p
  cases e : evA as env with
  | ok xs env1 =>
    rw [e] at p
    intro Z1 H1 vs a r1 ar _
    exact k Z1 H1 vs xs env1 (apA_np e) r1 ar (p.later (a.weak fun y hy => .inl hy))
  | exc _ _ _ _ => rw [e] at p; exact p
  | bad => rw [e] at p; exact p
theorem pd_call (F : FnG X.prog X.w X.K X.mg X.base k fa fd ps (spF T np f)) (hgd : X.A.guards = some []) (hr : Room k X.A) (tk : Takes X Wx) (hg : Gl X x) (hm : X.mg x = some (.ref fa)) (hk : PySem.W.keepIn X.K (.ref fa) = true) (hb : Binds X.K fd ps [])
    (A : PArgs X T Wx (e :: es) as t) (hl : as.length = np) (hdb : (x == ("__debug__" : Str)) = false := by decide)
    (he : starEach (e :: es) X.env = (false, eval e X.env) :: starEach es X.env := by rfl) (hpl : (backTo pos (starEach es X.env)).any (·.1) = false := by rfl) : PE X (.Call (.Name x pp) (e :: es) [] pos) (TF T Wx KW (callM as f)) :=
  peImp (pe_callG F hgd hr hg hm hk hb (fun σ => passAt tk σ) A.pa hdb he hpl) fun σ H Q q => args_then A q fun Z1 H1 vs xs env1 n r ar p => ⟨by rw [ar.length, n, hl], apA_ok r ar p⟩
def chkO (c : Nat) (m : Str) : D → Option Unit
  | .obj c' ns _ => if c = c' ∧ ns.contains m = false then some () else none
  | _ => none
def methM (c : Nat) (m : Str) (i : Nat) (as : List (Sum Nat (M D))) (f : M W) : M W := pk i >>= fun d => ofO (chkO c m d) >>= fun _ => evA as >>= fun xs => apA (.inl i :: xs) f
def methV (c : Nat) (m : Str) (g : M D) (as : List (Sum Nat (M D))) (f : M W) : M W := g >>= fun d => ofO (chkO c m d) >>= fun _ => evA as >>= fun xs => apA (.inr d :: xs) f
theorem chkO_ok {c : Nat} {d : D} {v : V} {u : Unit} (h : chkO c m d = some u) (hv : Vw T Z H d v) : ∃ a dx fs, v = .ref a ∧ H a = some (.ins (T.ca c) dx fs) ∧ fs.lookup m = none := by
  cases d <;> simp only [chkO] at h <;> try (cases h; done)
  rename_i c' ns ds
  split at h
  · rename_i hc
    obtain ⟨rfl, hn⟩ := hc
    obtain ⟨a, dx, fv, e1, e2, e3, _⟩ := hv
    refine ⟨a, dx, fv, e1, e2, ?_⟩
    subst e3
    rw [List.lookup_eq_none_iff]
    intro y hy
    have : y.1 ∈ fv.map (·.1) := List.mem_map_of_mem hy
    rw [List.contains_eq_any_beq, List.any_eq_false] at hn
    have := hn _ this
    simpa using this
  · cases h
theorem pd_meth {pl : Sem Bool} {c i : Nat} (ho : PE X o (tVar i)) (cl : Cls X.K (T.ca c)) (hm : Meth X.K (T.ca c) m fa) (F : FnG X.prog X.w X.K X.mg X.base k fa fd ps (spF T np f)) (hgd : X.A.guards = some []) (hr : Room k X.A) (tk : Takes X Wx) (hb : Binds X.K fd ps [])
    (A : PArgs X T Wx (e :: es) as t) (hl : as.length + 1 = np) (hst : starEach (e :: es) X.env = (false, eval e X.env) :: starEach es X.env := by rfl) (hpl : (backTo pos (starEach es X.env)).any (·.1) = false := by rfl)
    (ht : eval (.Call (.Attribute o m apos) (e :: es) [] pos) X.env = (do
      let ov ← eval o X.env
      standAt apos.atName
      let (f, first) ← holding [ov] (getMethod ov m pl)
      callWith pos f first (backTo pos (starEach (e :: es) X.env)) (backToKw pos (keywordEach [] X.env))) := by rfl) : PE X (.Call (.Attribute o m apos) (e :: es) [] pos) (TF T Wx KW (methM c m i as f)) :=
  peImp (pe_methG (pl := pl) ho cl hm F hgd hr hb (fun σ => passAt tk σ) A.pa hst hpl ht) fun σ H Q ⟨Z, env, r, p⟩ => by
    have p : Post T Wx KW σ (Owns σ env) Z H ((pk i env).bind fun d => ofO (chkO c m d) >>= fun _ => evA as >>= fun xs => apA (.inl i :: xs) f) Q := p
    cases q : env[i]? with
    | none => simp only [pk, q, R.bind] at p; exact p.elim
    | some ow =>
      cases ow with
      | none => simp only [pk, q, R.bind] at p; exact p.elim
      | some w0 =>
        simp only [pk, q, R.bind] at p
        obtain ⟨v, hv, hw⟩ := r.at_ i w0 q
        have p : Post T Wx KW σ (Owns σ env) Z H ((ofO (chkO c m w0.view) env).bind fun _ => evA as >>= fun xs => apA (.inl i :: xs) f) Q := p
        cases e1 : chkO c m w0.view with
        | none => rw [e1] at p; exact p.elim
        | some u =>
          rw [e1] at p
          obtain ⟨a, dx, fs, rfl, h2, h3⟩ := chkO_ok e1 (hw.vw r.ex)
          refine ⟨_, hv, a, dx, fs, rfl, h2, h3, ?_⟩
          have q2 : TF T Wx KW (evA as >>= fun xs => apA (.inl i :: xs) f) σ H Q := ⟨Z, env, r, p⟩
          exact args_then A q2 fun Z1 H1 vs xs env1 n r1 ar p1 => ⟨by rw [List.length_cons, ar.length, n, hl], apA_ok (vs := .ref a :: vs) (xs := .inl i :: xs) r1 ⟨_, vs, rfl, hv, ar⟩ p1⟩
theorem pd_meth0 {pl : Sem Bool} {c i : Nat} (ho : PE X o (tVar i)) (cl : Cls X.K (T.ca c)) (hm : Meth X.K (T.ca c) m fa) (F : FnG X.prog X.w X.K X.mg X.base k fa fd ps (spF T 1 f)) (hgd : X.A.guards = some []) (hr : Room k X.A) (tk : Takes X Wx) (hb : Binds X.K fd ps [])
    (ht : eval (.Call (.Attribute o m apos) [] [] pos) X.env = (do
      let ov ← eval o X.env
      standAt apos.atName
      let (f, first) ← holding [ov] (getMethod ov m pl)
      callWith pos f first (backTo pos (starEach [] X.env)) (backToKw pos (keywordEach [] X.env))) := by rfl) : PE X (.Call (.Attribute o m apos) [] [] pos) (TF T Wx KW (methM c m i [] f)) :=
  peImp (pe_meth0G (pl := pl) ho cl hm F hgd hr hb (fun σ => passAt tk σ) ht) fun σ H Q ⟨Z, env, r, p⟩ => by
    have p : Post T Wx KW σ (Owns σ env) Z H ((pk i env).bind fun d => ofO (chkO c m d) >>= fun _ => evA [] >>= fun xs => apA (.inl i :: xs) f) Q := p
    cases q : env[i]? with
    | none => simp only [pk, q, R.bind] at p; exact p.elim
    | some ow =>
      cases ow with
      | none => simp only [pk, q, R.bind] at p; exact p.elim
      | some w0 =>
        simp only [pk, q, R.bind] at p
        obtain ⟨v, hv, hw⟩ := r.at_ i w0 q
        have p : Post T Wx KW σ (Owns σ env) Z H ((ofO (chkO c m w0.view) env).bind fun _ => evA [] >>= fun xs => apA (.inl i :: xs) f) Q := p
        cases e1 : chkO c m w0.view with
        | none => rw [e1] at p; exact p.elim
        | some u =>
          rw [e1] at p
          obtain ⟨a, dx, fs, rfl, h2, h3⟩ := chkO_ok e1 (hw.vw r.ex)
          refine ⟨_, hv, a, dx, fs, rfl, h2, h3, ?_⟩
          have q2 : TF T Wx KW (evA [] >>= fun xs => apA (.inl i :: xs) f) σ H Q := ⟨Z, env, r, p⟩
          exact args_then (X := X) .nil q2 fun Z1 H1 vs xs env1 n r1 ar p1 => ⟨by rw [List.length_cons, ar.length, n]; rfl, apA_ok (vs := .ref a :: vs) (xs := .inl i :: xs) r1 ⟨_, vs, rfl, hv, ar⟩ p1⟩
def apN (c : Nat) (xs : List Ag) (f : M W) : M W := fun env => match getA env xs with
  | none => .bad
  | some ws => match f (some (.mo c [] []) :: ws.map some) with
    | .ok (.sh .non) (some w :: es) => .ok w (putA xs es (hidA xs env))
    | .exc e ns ds (_ :: es) => .exc e ns ds (putA xs es (hidA xs env))
    | _ => .bad
def makeM (c : Nat) (as : List (Sum Nat (M D))) (f : M W) : M W := evA as >>= fun xs => apN c xs f
theorem REnv.tail {o : Option W} {v : V} {es : Env'} {vs : List V} (r : REnv T Z H ((v :: vs).map some) (o :: es)) : REnv T Z H (vs.map some) es :=
  ⟨r.ex, by have := r.len; simpa using this, fun j u hj => by
    obtain ⟨x, y1, y2⟩ := r.at_ (j + 1) u (by simpa using hj)
    exact ⟨x, by simpa using y1, y2⟩, fun j k u u' a ne h1 h2 w1 w2 s1 s2 => r.sep (j + 1) (k + 1) u u' a (by omega) (by simpa using h1) (by simpa using h2) w1 w2 (by simpa using s1) (by simpa using s2)⟩
theorem Owns.tail {o : Option W} {v : V} {es : Env'} {vs : List V} {a : Addr} (h : Owns (vs.map some) es a) : Owns ((v :: vs).map some) (o :: es) a := by
  obtain ⟨j, u, h1, w1, s1⟩ := h
  exact ⟨j + 1, u, by simpa using h1, w1, by simpa using s1⟩
theorem apN_ok {c : Nat} (r : REnv T Z H σ env) (ar : AgR T Z σ xs vs) (p : Post T Wx KW σ (Owns σ env) Z H (apN c xs f env) Q) {x dx : Addr} (hx : H x = none) (hdx : H dx = none) (ne : dx ≠ x) :
    TF T (fun c d _ H' => Wx c d σ H') KW f ((V.ref x :: vs).map some) (upd (upd H dx (.own x)) x (.ins (T.ca c) dx [])) fun v H2 => v = .non ∧ Q (.ref x) H2 := by
  unfold apN at p
  cases g : getA env xs with
  | none => rw [g] at p; exact p.elim
  | some ws =>
    rw [g] at p
    simp only at p
    obtain ⟨r1, o1, r2⟩ := getA_ok r ar g
    have x1 : (upd H dx (.own x)) x = none := by rw [upd_ne ne.symm]; exact hx
    have adv0 : Adv (Owns (vs.map some) (ws.map some)) Z H (fun a => (Owns (vs.map some) (ws.map some) a ∨ a = dx) ∨ a = x) Z (upd (upd H dx (.own x)) x (.ins (T.ca c) dx [])) :=
      (Adv.newO r.ex hdx).trans (Adv.newO (r1.newO (o := .own x) hdx).ex x1)
    have r3 : REnv T Z (upd (upd H dx (.own x)) x (.ins (T.ca c) dx [])) (vs.map some) (ws.map some) := (r1.newO hdx).newO x1
    have zx : Z x = none := Evl.fresh_back r.ex hx
    have r4 : REnv T Z (upd (upd H dx (.own x)) x (.ins (T.ca c) dx [])) ((V.ref x :: vs).map some) (some (.mo c [] []) :: ws.map some) := by
      refine ⟨r3.ex, by have := r3.len; simpa using this, fun j u hj => ?_, fun j k u u' a ne' h1 h2 w1 w2 s1 s2 => ?_⟩
      · cases j with
        | zero =>
          simp at hj; subst hj
          exact ⟨.ref x, by simp, x, dx, [], rfl, zx, upd_same, rfl, rfl⟩
        | succ j =>
          obtain ⟨y, y1, y2⟩ := r3.at_ j u (by simpa using hj)
          exact ⟨y, by simpa using y1, y2⟩
      · have first : ∀ (j : Nat) (u : W), (ws.map some)[j]? = some (some u) → u.own = true → (vs.map some)[j]? = some (some (V.ref a)) → x = a → False := fun j u g1 g2 g3 g4 => by
          obtain ⟨_, o, e⟩ := r1.ownZ ⟨j, u, g1, g2, g3⟩
          rw [← g4, hx] at e; cases e
        cases j with
        | zero =>
          cases k with
          | zero => exact ne' rfl
          | succ k => exact first k u' (by simpa using h2) w2 (by simpa using s2) (by simpa using s1)
        | succ j =>
          cases k with
          | zero => exact first j u (by simpa using h1) w1 (by simpa using s1) (by simpa using s2)
          | succ k => exact r3.sep j k u u' a (by omega) (by simpa using h1) (by simpa using h2) w1 w2 (by simpa using s1) (by simpa using s2)
    have adv1 : ∀ {O' : Addr → Prop} {Z' H' : Hp}, Adv (Owns ((V.ref x :: vs).map some) (some (.mo c [] []) :: ws.map some)) Z (upd (upd H dx (.own x)) x (.ins (T.ca c) dx [])) O' Z' H' → Adv (Owns (vs.map some) (ws.map some)) Z H O' Z' H' := fun b =>
      adv0.trans (b.more fun a ⟨j, u, h1, w1, s1⟩ => by
        cases j with
        | zero => exact .inr (by simpa using s1.symm)
        | succ j => exact .inl (.inl ⟨j, u, by simpa using h1, w1, by simpa using s1⟩))
    refine ⟨Z, _, r4, ?_⟩
    cases e : f (some (.mo c [] []) :: ws.map some) with
    | ok w0 es0 =>
      rw [e] at p
      intro Z' H' v adv r' kk xx
      split at p
      · rename_i w es heq
        cases heq
        refine ⟨kk, ?_⟩
        obtain ⟨y, y1, y2⟩ := r'.at_ 0 w (by simp)
        have hy : y = .ref x := by simpa using y1.symm
        subst hy
        have dis : ∀ a, KW.ext (.ref x) w a → ¬ Owns (vs.map some) es a := fun a ⟨ow, ea⟩ ⟨j, u, h1, w1, s1⟩ =>
          r'.sep 0 (j + 1) w u a (by omega) (by simp) (by simpa using h1) ow w1 (by rw [ea]; simp) (by simpa using s1)
        obtain ⟨b1, b2, b3⟩ := back (P := KW.ext (.ref x) w) r ar g ((adv1 adv).weak fun a h => .inl (h.elim (fun z => z.tail) fun z => ⟨0, w, by simp, z.1, by rw [z.2]; simp⟩)) r'.tail dis
        exact p Z' H' (.ref x) b1 b2 y2 b3
      · rename_i heq; cases heq
      · exact p.elim
    | exc c' ns ds es0 =>
      rw [e] at p
      intro Z' H' cls dd adv r' kk
      split at p
      · rename_i heq; cases heq
      · rename_i heq
        cases heq
        obtain ⟨b1, b2, _⟩ := back (P := fun _ => False) r ar g ((adv1 adv).weak fun a h => h.elim (fun z => z.tail) fun z => z.elim) r'.tail fun a z => z.elim
        exact p Z' H' cls dd (b1.weak fun a h => .inl h) b2 kk
      · exact p.elim
    | bad =>
      rw [e] at p
      exact p
theorem pd_make {C : Nat} (Mm : Mk X.K (T.ca C) fa) (F : FnG X.prog X.w X.K X.mg X.base k fa fd ps (spF T np f)) (hgd : X.A.guards = some []) (hr : Room (k + 1) X.A) (tk : Takes X Wx) (hg : Gl X x) (hm : X.mg x = some (.ref (T.ca C))) (hb : Binds X.K fd ps [])
    (A : PArgs X T Wx (e :: es) as t) (hl : as.length + 1 = np) (hdb : (x == ("__debug__" : Str)) = false := by decide)
    (he : starEach (e :: es) X.env = (false, eval e X.env) :: starEach es X.env := by rfl) (hpl : (backTo pos (starEach es X.env)).any (·.1) = false := by rfl) : PE X (.Call (.Name x pp) (e :: es) [] pos) (TF T Wx KW (makeM C as f)) :=
  peImp (pe_makeG Mm F hgd hr hg hm hb (fun σ => passAt tk σ) A.pa hdb he hpl) fun σ H Q q => args_then A q fun Z1 H1 vs xs env1 n r ar p y dy hy hdy ne => ⟨by rw [List.length_cons, ar.length, n, hl], apN_ok r ar p hy hdy ne⟩
end
end Wc
namespace Wc
open PySem L2
inductive Fl where
  | nx | brk | cont
  | ret (w : W)
def PostS (T : Cl) (Wx : WX) (as : List Nat) (σ : St) (O : Addr → Prop) (Z H : Hp) (r : R Fl) (D : Ends) : Prop :=
  match r with
  | .ok fl env' => ∀ (Z' H' : Hp) (σ' : St), (∀ i : Nat, i ∉ as → σ'[i]? = σ[i]?) → REnv T Z' H' σ' env' → match fl with
    | .nx => Adv O Z H (Owns σ' env') Z' H' → D.nx σ' H'
    | .brk => Adv O Z H (Owns σ' env') Z' H' → D.bk σ' H'
    | .cont => Adv O Z H (Owns σ' env') Z' H' → D.ct σ' H'
    | .ret w => ∀ v, Adv O Z H (fun a => Owns σ' env' a ∨ KW.ext v w a) Z' H' → Rw T Z' H' w v → (∀ a, KW.ext v w a → ¬ Owns σ' env' a) → D.rt v H'
  | .exc c ns ds env' => ∀ (Z' H' : Hp) (σ' : St) (cls : Value) (dd : Option Addr), (∀ i : Nat, i ∉ as → σ'[i]? = σ[i]?) → Adv O Z H (Owns σ' env') Z' H' → REnv T Z' H' σ' env' → Xat T Z' H' c ns ds cls dd → Wx cls dd σ' H'
  | .bad => False
def TSF (T : Cl) (Wx : WX) (as : List Nat) (F : M Fl) : TS := fun D σ H => ∃ Z env, REnv T Z H σ env ∧ PostS T Wx as σ (Owns σ env) Z H (F env) D
section
variable {X : Cx} {T : Cl} {Wx : WX} {as : List Nat} {σ σ1 : St} {O O1 : Addr → Prop} {Z H Z1 H1 : Hp} {D : Ends} {α β : Type} {κ : Kind α β}
theorem PostS.later {r : R Fl} (s : ∀ i : Nat, i ∉ as → σ1[i]? = σ[i]?) (a : Adv O Z H O1 Z1 H1) (h : PostS T Wx as σ O Z H r D) : PostS T Wx as σ1 O1 Z1 H1 r D := by
  have tr : ∀ {σ' : St}, (∀ i : Nat, i ∉ as → σ'[i]? = σ1[i]?) → ∀ i : Nat, i ∉ as → σ'[i]? = σ[i]? := fun q i hi => (q i hi).trans (s i hi)
  cases r with
  | ok fl env' =>
    intro Z' H' σ' q r'
    have h := h Z' H' σ' (tr q) r'
    cases fl with
    | nx => exact fun b => h (a.trans b)
    | brk => exact fun b => h (a.trans b)
    | cont => exact fun b => h (a.trans b)
    | ret w => exact fun v b => h v (a.trans b)
  | exc c ns ds env' => exact fun Z' H' σ' cls dd q b => h Z' H' σ' cls dd (tr q) (a.trans b)
  | bad => exact h
/-- an expression, then a statement's rest -/
theorem TSF.bind {f : M α} {g : α → M Fl} {Q1 : β → Hp → Prop} (h : TSF T Wx as (f >>= g) D σ H)
    (k : ∀ Z1 H1 v d env1, REnv T Z1 H1 σ env1 → κ.rel T Z1 H1 v d → (∀ a, κ.ext v d a → ¬ Owns σ env1 a) → PostS T Wx as σ (fun a => Owns σ env1 a ∨ κ.ext v d a) Z1 H1 (g d env1) D → Q1 v H1) : TF T Wx κ f σ H Q1 := by
  obtain ⟨Z, env, r, p⟩ := h
  refine ⟨Z, env, r, ?_⟩
  have p : PostS T Wx as σ (Owns σ env) Z H ((f env).bind g) D := p
  cases e : f env with
  | ok d env1 =>
    rw [e] at p
    exact fun Z1 H1 v a r1 q x => k Z1 H1 v d env1 r1 q x (p.later (fun _ _ => rfl) a)
  | exc c ns ds env1 =>
    rw [e] at p
    exact fun Z1 H1 cls dd a r1 q => p Z1 H1 σ cls dd (fun _ _ => rfl) a r1 q
  | bad =>
    rw [e] at p
    exact p
theorem PostS.noext {r : R Fl} {P : Addr → Prop} (e : Ex Z H) (h : PostS T Wx as σ (fun a => O a ∨ P a) Z H r D) : PostS T Wx as σ O Z H r D :=
  h.later (fun _ _ => rfl) ((Adv.refl e).weak fun _ z => .inl z)
def seqM (F G : M Fl) : M Fl := F >>= fun fl => match fl with
  | .nx => G
  | fl => M.pure fl
def nxM : M Fl := M.pure .nx
def ifM (b : M Bool) (F G : M Fl) : M Fl := b >>= fun c => if c = true then F else G
def retM (f : M W) : M Fl := f >>= fun w => M.pure (.ret w)
def drpM {α : Type} (f : M α) : M Fl := f >>= fun _ => M.pure .nx
def setE (i : Nat) (w : W) (env : Env') : R Fl := if i < env.length then .ok .nx (env.set i (some w)) else .bad
def asgM (i : Nat) (f : M W) : M Fl := f >>= fun w => setE i w
variable {st : Stmt} {rest : List Stmt} {F G : M Fl} {e : Expr}
theorem sd_nil : PSs X [] (TSF T Wx as nxM) := pssImp pss_nil fun D σ H ⟨Z, env, r, p⟩ => p Z H σ (fun _ _ => rfl) r (Adv.refl r.ex)
theorem seqTS {t u : TS} (h1 : ∀ D σ H, TSF T Wx as F D σ H → t D σ H) (h2 : ∀ D σ H, TSF T Wx as G D σ H → u D σ H) : TSF T Wx as (seqM F G) D σ H → tSeq t u D σ H := by
  rintro ⟨Z, env, r, p⟩
  refine h1 _ _ _ ⟨Z, env, r, ?_⟩
  have p : PostS T Wx as σ (Owns σ env) Z H ((F env).bind _) D := p
  cases e : F env with
  | ok fl env1 =>
    rw [e] at p
    intro Z1 H1 σ1 s1 r1
    cases fl with
    | nx =>
      intro a1
      exact h2 _ _ _ ⟨Z1, env1, r1, PostS.later s1 a1 p⟩
    | brk => exact fun a1 => p Z1 H1 σ1 s1 r1 a1
    | cont => exact fun a1 => p Z1 H1 σ1 s1 r1 a1
    | ret w => exact fun v a1 => p Z1 H1 σ1 s1 r1 v a1
  | exc c ns ds env1 => rw [e] at p; exact p
  | bad => rw [e] at p; exact p
theorem sd_cons (h1 : PS X st (TSF T Wx as F)) (h2 : PSs X rest (TSF T Wx as G)) : PSs X (st :: rest) (TSF T Wx as (seqM F G)) :=
  pssImp (pss_cons h1 h2) fun D σ H q => seqTS (fun _ _ _ z => z) (fun _ _ _ z => z) q
theorem sd_one (h1 : PS X st (TSF T Wx as F)) : PSs X [st] (TSF T Wx as F) := pss_one h1
theorem sd_never : PS X st (TSF T Wx as (stuck : M Fl)) := psImp ps_never fun D σ H ⟨_, _, _, p⟩ => p
theorem sd_if {c : Expr} {a b : List Stmt} {pos : Pos} {f : M Bool} (hc : PT X c (TF T Wx KB f)) (ha : PSs X a (TSF T Wx as F)) (hb : PSs X b (TSF T Wx as G)) : PS X (.If c a b pos) (TSF T Wx as (ifM f F G)) :=
  psImp (ps_if hc ha hb) fun D σ H q => TSF.bind (κ := KB) q fun Z1 H1 v d env1 r1 e _ p => by
    have e : v = d := e
    subst e
    have p := p.noext r1.ex
    cases v with
    | true => exact ⟨Z1, env1, r1, p⟩
    | false => exact ⟨Z1, env1, r1, p⟩
theorem sd_ret {pos : Pos} {f : M W} (he : PE X e (TF T Wx KW f)) : PS X (.Return (some e) pos) (TSF T Wx as (retM f)) :=
  psImp (ps_ret he) fun D σ H q => TSF.bind (κ := KW) q fun Z1 H1 v w env1 r1 s x p => p Z1 H1 σ (fun _ _ => rfl) r1 v (Adv.refl (O := fun a => Owns σ env1 a ∨ KW.ext v w a) r1.ex) s x
theorem sd_drop {pos : Pos} {κ : Kind α V} {f : M α} (he : PE X e (TF T Wx κ f)) (hs : swapsWith e none pos.line X.env = pure false := by rfl) : PS X (.Expr e pos) (TSF T Wx as (drpM f)) :=
  psImp (ps_expr he hs) fun D σ H q => TSF.bind (κ := κ) q fun Z1 H1 v w env1 r1 s x p => p Z1 H1 σ (fun _ _ => rfl) r1 ((Adv.refl (O := fun a => Owns σ env1 a ∨ κ.ext v w a) r1.ex).weak fun _ z => .inl z)
/-- a slot gets a new value -/
theorem REnv.bindS {env : Env'} {i : Nat} {w : W} {v : V} (r : REnv T Z H σ env) (hi : i < env.length) (hw : Rw T Z H w v) (x : ∀ a, KW.ext v w a → ¬ Owns σ env a) :
    REnv T Z H (σ.set i (some v)) (env.set i (some w)) ∧ ∀ a, Owns (σ.set i (some v)) (env.set i (some w)) a → Owns σ env a ∨ KW.ext v w a := by
  have hσ : i < σ.length := by rw [← r.len]; exact hi
  have at_i : ∀ {u : W}, (env.set i (some w))[i]? = some (some u) → u = w := fun {u} hj => by
    rw [List.getElem?_set] at hj
    simp at hj
    exact hj.2.symm
  have s_i : (σ.set i (some v))[i]? = some (some v) := by rw [List.getElem?_set]; simp [hσ]
  refine ⟨⟨r.ex, by rw [List.length_set, List.length_set]; exact r.len, fun j u hj => ?_, fun j k u u' a ne h1 h2 o1 o2 s1 s2 => ?_⟩, fun a ⟨j, u, h1, o1, s1⟩ => ?_⟩
  · by_cases e : i = j
    · subst e
      have := at_i hj
      subst this
      exact ⟨v, s_i, hw⟩
    · rw [List.getElem?_set_ne e] at hj ⊢
      exact r.at_ j u hj
  · by_cases e : i = j
    · subst e
      have := at_i h1
      subst this
      rw [List.getElem?_set_ne ne] at h2 s2
      rw [s_i] at s1
      exact x a ⟨o1, by cases s1; rfl⟩ ⟨k, u', h2, o2, s2⟩
    · rw [List.getElem?_set_ne e] at h1 s1
      by_cases e2 : i = k
      · subst e2
        have := at_i h2
        subst this
        rw [s_i] at s2
        exact x a ⟨o2, by cases s2; rfl⟩ ⟨j, u, h1, o1, s1⟩
      · rw [List.getElem?_set_ne e2] at h2 s2
        exact r.sep j k u u' a ne h1 h2 o1 o2 s1 s2
  · by_cases e : i = j
    · subst e
      have := at_i h1
      subst this
      rw [s_i] at s1
      exact .inr ⟨o1, by cases s1; rfl⟩
    · rw [List.getElem?_set_ne e] at h1 s1
      exact .inl ⟨j, u, h1, o1, s1⟩
theorem setE_post {env : Env'} {i : Nat} {w : W} {v : V} (hi : i ∈ as) (r : REnv T Z H σ env) (hw : Rw T Z H w v) (x : ∀ a, KW.ext v w a → ¬ Owns σ env a) (p : PostS T Wx as σ (fun a => Owns σ env a ∨ KW.ext v w a) Z H (setE i w env) D) : D.nx (σ.set i (some v)) H := by
  unfold setE at p
  split at p
  · rename_i hl
    obtain ⟨r2, o2⟩ := r.bindS hl hw x
    refine p Z H _ (fun j hj => ?_) r2 ((Adv.refl (O := fun a => Owns σ env a ∨ KW.ext v w a) r.ex).weak o2)
    rw [List.getElem?_set_ne (fun e => hj (by rw [← e]; exact hi))]
  · exact p.elim
theorem asgTS {i : Nat} {f : M W} (hi : i ∈ as) (q : TSF T Wx as (asgM i f) D σ H) : tAsg (TF T Wx KW f) (gName i) D σ H :=
  TSF.bind (κ := KW) q fun Z1 H1 v w env1 r1 s x p => setE_post hi r1 s x p
theorem sd_set {i : Nat} {x : Str} {pos pos' : Pos} {f : M W} (hN : X.N.Nodup) (hi : X.N[i]? = some x) (hx : Loc X.env.scope x) (ha : i ∈ as) (he : PE X e (TF T Wx KW f)) (hs : swapsWith e (some (.Name x pos')) pos.line X.env = pure false := by rfl)
    (hf : X.fn x = true ∨ X.env.scope.names.lookup x = some .local := by first | exact .inl rfl | exact .inr rfl | assumption) : PS X (.Assign [.Name x pos'] e pos) (TSF T Wx as (asgM i f)) :=
  psImp (ps_set hN hi hx he hs hf) fun D σ H q => asgTS ha q
def finE (as : List Nat) (np : Nat) (env env' : Env') : Env' := (List.range np).map fun i => if as.contains i = true then (match env[i]? with
  | some (some (.sh d)) => some (.sh d)
  | _ => none) else (env'[i]?).join
/-- np parameters, nl further names; as: the names that are stored -/
def fnM (np nl : Nat) (as : List Nat) (F : M Fl) : M W := fun env => if env.length = np then match F (env ++ List.replicate nl none) with
  | .ok (.ret w) env' => .ok w (finE as np env env')
  | .ok .nx env' => .ok (.sh .non) (finE as np env env')
  | .exc c ns ds env' => .exc c ns ds (finE as np env env')
  | _ => .bad else .bad
theorem finE_get {np : Nat} {env env' : Env'} {i : Nat} {w : W} (h : (finE as np env env')[i]? = some (some w)) : i < np ∧ ((i ∈ as ∧ env[i]? = some (some w) ∧ w.own = false) ∨ (i ∉ as ∧ env'[i]? = some (some w))) := by
  unfold finE at h
  rw [List.getElem?_map] at h
  have hi : i < np := by
    rcases Nat.lt_or_ge i np with q | q
    · exact q
    · rw [List.getElem?_eq_none (by simpa using q)] at h; cases h
  rw [List.getElem?_range hi] at h
  simp only [Option.map_some, Option.some.injEq] at h
  refine ⟨hi, ?_⟩
  split at h
  · rename_i hc
    have hc : i ∈ as := by simpa using hc
    left
    split at h
    · rename_i d e
      cases h
      exact ⟨hc, e, rfl⟩
    · cases h
  · rename_i hc
    have hc : i ∉ as := by simpa using hc
    right
    refine ⟨hc, ?_⟩
    cases e : env'[i]? with
    | none => rw [e] at h; cases h
    | some o => rw [e] at h; exact congrArg some h
theorem finE_ok {np : Nat} {vs : List V} {env env' : Env'} {σ' : St} {Z' H' : Hp} {P : Addr → Prop} {nl : Nat} (hv : vs.length = np) (r : REnv T Z H (vs.map some) env)
    (s : ∀ i : Nat, i ∉ as → σ'[i]? = (vs.map some ++ List.replicate nl none)[i]?) (adv : Adv O Z H (fun a => Owns σ' env' a ∨ P a) Z' H') (r' : REnv T Z' H' σ' env') (x : ∀ a, P a → ¬ Owns σ' env' a) :
    Adv O Z H (fun a => Owns (vs.map some) (finE as np env env') a ∨ P a) Z' H' ∧ REnv T Z' H' (vs.map some) (finE as np env env') ∧ ∀ a, P a → ¬ Owns (vs.map some) (finE as np env env') a := by
  have old : ∀ (i : Nat), i < np → i ∉ as → σ'[i]? = (vs.map some)[i]? := fun i hi ha => by rw [s i ha, List.getElem?_append_left (by simpa [hv] using hi)]
  have sub : ∀ a, Owns (vs.map some) (finE as np env env') a → Owns σ' env' a := fun a ⟨i, w, h1, o1, s1⟩ => by
    obtain ⟨hi, q | q⟩ := finE_get h1
    · rw [q.2.2] at o1; cases o1
    · exact ⟨i, w, q.2, o1, by rw [old i hi q.1]; exact s1⟩
  refine ⟨adv.weak fun a h => h.imp (sub a) id, ⟨r'.ex, ?_, fun i w h => ?_, fun i j w u a ne h1 h2 o1 o2 s1 s2 => ?_⟩, fun a h z => x a h (sub a z)⟩
  · unfold finE
    simp [hv]
  · obtain ⟨hi, q | q⟩ := finE_get h
    · obtain ⟨v, h1, h2⟩ := r.at_ i w q.2.1
      refine ⟨v, h1, ?_⟩
      cases w with
      | sh d => exact Sh.mono adv.zz d v h2
      | ml _ => exact absurd q.2.2 (by simp [W.own])
      | mo _ _ _ => exact absurd q.2.2 (by simp [W.own])
      | md _ _ => exact absurd q.2.2 (by simp [W.own])
    · obtain ⟨v, h1, h2⟩ := r'.at_ i w q.2
      exact ⟨v, by rw [← old i hi q.1]; exact h1, h2⟩
  · obtain ⟨hi, q | q⟩ := finE_get h1
    · rw [q.2.2] at o1; cases o1
    · obtain ⟨hj, q2 | q2⟩ := finE_get h2
      · rw [q2.2.2] at o2; cases o2
      · exact r'.sep i j w u a ne q.2 q2.2 o1 o2 (by rw [old i hi q.1]; exact s1) (by rw [old j hj q2.1]; exact s2)
theorem REnv.more {vs : List V} {env : Env'} (r : REnv T Z H (vs.map some) env) (nl : Nat) : REnv T Z H (vs.map some ++ List.replicate nl none) (env ++ List.replicate nl none) ∧ ∀ a, Owns (vs.map some ++ List.replicate nl none) (env ++ List.replicate nl none) a → Owns (vs.map some) env a := by
  have lt : ∀ {i : Nat} {w : W}, (env ++ List.replicate nl none)[i]? = some (some w) → i < env.length ∧ env[i]? = some (some w) := fun {i w} h => by
    rcases Nat.lt_or_ge i env.length with q | q
    · rw [List.getElem?_append_left q] at h
      exact ⟨q, h⟩
    · rw [List.getElem?_append_right q, List.getElem?_replicate] at h
      split at h <;> cases h
  have sv : ∀ {i : Nat}, i < env.length → (vs.map some ++ List.replicate nl none)[i]? = (vs.map some)[i]? := fun {i} q => List.getElem?_append_left (by rw [← r.len]; exact q)
  refine ⟨⟨r.ex, by rw [List.length_append, List.length_append, r.len, List.length_replicate, List.length_replicate], fun i w h => ?_, fun i j w u a ne h1 h2 o1 o2 s1 s2 => ?_⟩, fun a ⟨i, w, h1, o1, s1⟩ => ?_⟩
  · obtain ⟨q, h⟩ := lt h
    rw [sv q]
    exact r.at_ i w h
  · obtain ⟨q1, h1⟩ := lt h1
    obtain ⟨q2, h2⟩ := lt h2
    rw [sv q1] at s1
    rw [sv q2] at s2
    exact r.sep i j w u a ne h1 h2 o1 o2 s1 s2
  · obtain ⟨q1, h1⟩ := lt h1
    rw [sv q1] at s1
    exact ⟨i, w, h1, o1, s1⟩
end
end Wc
namespace Wc
open PySem L2
inductive Tg where
  | nm (i : Nat)
  | tp (l : List Tg)
mutual
def stT : Tg → D → Env' → Option Env'
  | .nm i, d, env => if i < env.length then some (env.set i (some (.sh d))) else none
  | .tp l, .tup ds, env => stTs l ds env
  | .tp _, _, _ => none
def stTs : List Tg → List D → Env' → Option Env'
  | [], [], env => some env
  | t :: ts, d :: ds, env => (stT t d env).bind fun e => stTs ts ds e
  | [], _ :: _, _ => none
  | _ :: _, [], _ => none
end
section
variable {X : Cx} {T : Cl} {Wx : WX} {as : List Nat}
def GT (X : Cx) (T : Cl) (as : List Nat) (tg : Expr) (t : Tg) (g : TG) : Prop := PG X tg g ∧ ∀ (Z H : Hp) (σ : St) (env : Env') (v : V) (d : D) (env' : Env') (Q : St → Hp → Prop), REnv T Z H σ env → Sh T Z d v → stT t d env = some env' →
  (∀ σ' : St, (∀ i : Nat, i ∉ as → σ'[i]? = σ[i]?) → REnv T Z H σ' env' → (∀ a, Owns σ' env' a → Owns σ env a) → Q σ' H) → g v σ H Q
def GTs (X : Cx) (T : Cl) (as : List Nat) (tgs : List Expr) (ts : List Tg) (g : TGs) : Prop := PGs X tgs g ∧ ∀ (Z H : Hp) (σ : St) (env : Env') (vs : List V) (ds : List D) (env' : Env') (Q : St → Hp → Prop), REnv T Z H σ env → ShL T Z ds vs → stTs ts ds env = some env' →
  (∀ σ' : St, (∀ i : Nat, i ∉ as → σ'[i]? = σ[i]?) → REnv T Z H σ' env' → (∀ a, Owns σ' env' a → Owns σ env a) → Q σ' H) → g vs σ H Q
theorem gt_name {i : Nat} {x : Str} {pos : Pos} (hN : X.N.Nodup) (hi : X.N[i]? = some x) (hx : Loc X.env.scope x) (ha : i ∈ as) (hf : X.fn x = true ∨ X.env.scope.names.lookup x = some .local := by first | exact .inl rfl | exact .inr rfl | assumption) : GT X T as (.Name x pos) (.nm i) (gName i) := by
  refine ⟨pg_name hN hi hx hf, fun Z H σ env v d env' Q r s e q => ?_⟩
  simp only [stT] at e
  split at e
  · rename_i hl
    cases e
    obtain ⟨r2, o2⟩ := r.bindS (w := .sh d) hl s fun a z => by simp [KW, W.own] at z
    exact q _ (fun j hj => by rw [List.getElem?_set_ne (fun e => hj (by rw [← e]; exact ha))]) r2 fun a h => (o2 a h).elim id fun z => by simp [KW, W.own] at z
  · cases e
theorem gts_nil : GTs X T as [] [] gNil := by
  refine ⟨pgs_nil, fun Z H σ env vs ds env' Q r s e q => ?_⟩
  cases ds with
  | nil =>
    simp only [stTs] at e; cases e
    exact ⟨s, q σ (fun _ _ => rfl) r fun _ h => h⟩
  | cons d ds => simp only [stTs] at e; cases e
theorem gts_cons {e : Expr} {es : List Expr} {t : Tg} {ts : List Tg} {g : TG} {gs : TGs} (h1 : GT X T as e t g) (h2 : GTs X T as es ts gs) (hs : (assignEach (e :: es) X.env).map (·.2) = assign e X.env :: (assignEach es X.env).map (·.2) := by rfl) : GTs X T as (e :: es) (t :: ts) (gCons g gs) := by
  refine ⟨pgs_cons h1.1 h2.1 hs, fun Z H σ env vs ds env' Q r s e q => ?_⟩
  cases ds with
  | nil => simp only [stTs] at e; cases e
  | cons d ds =>
    simp only [stTs] at e
    obtain ⟨v, rest, rfl, s1, s2⟩ := s
    cases e1 : stT t d env with
    | none => rw [e1] at e; cases e
    | some env1 =>
      rw [e1] at e
      refine ⟨v, rest, rfl, h1.2 Z H σ env v d env1 _ r s1 e1 fun σ1 a1 r1 o1 => ?_⟩
      exact h2.2 Z H σ1 env1 rest ds env' Q r1 s2 e fun σ2 a2 r2 o2 => q σ2 (fun i hi => (a2 i hi).trans (a1 i hi)) r2 fun a h => o1 a (o2 a h)
theorem gt_tup {es : List Expr} {ts : List Tg} {gs : TGs} {k n : Nat} {pos : Pos} (hc : X.calm = true) (h : GTs X T as es ts gs) (hl : ts.length = n) (hn : (assignEach es X.env).length = n := by rfl) (hst : (assignEach es X.env).findIdx? (·.1) = none := by rfl) : GT X T as (.Tuple es k pos) (.tp ts) (gTup X.K n gs) := by
  refine ⟨pg_tup hc h.1 hn hst, fun Z H σ env v d env' Q r s e q => ?_⟩
  cases d <;> simp only [stT] at e <;> try (cases e; done)
  rename_i ds
  obtain ⟨a, vs, rfl, h1, _, s1⟩ := s
  have len : ∀ {ts : List Tg} {ds : List D} {env env' : Env'}, stTs ts ds env = some env' → ts.length = ds.length := by
    intro ts
    induction ts with
    | nil => intro ds env env' e; cases ds with
      | nil => rfl
      | cons d ds => simp only [stTs] at e; cases e
    | cons t ts ih =>
      intro ds env env' e
      cases ds with
      | nil => simp only [stTs] at e; cases e
      | cons d ds =>
        simp only [stTs] at e
        cases e1 : stT t d env with
        | none => rw [e1] at e; cases e
        | some env1 => rw [e1] at e; rw [List.length_cons, List.length_cons, ih e]
  exact ⟨a, vs, rfl, SqT.of (r.ex _ _ h1), by rw [s1.length, ← len e, hl], h.2 Z H σ env vs ds env' Q r s1 e q⟩
/-- target = a tree -/
def asgT (t : Tg) (f : M D) : M Fl := f >>= fun d env => match stT t d env with
  | some e => .ok .nx e
  | none => .bad
theorem sd_asgT {tg e : Expr} {t : Tg} {g : TG} {f : M D} {pos : Pos} (hg : GT X T as tg t g) (he : PE X e (TF T Wx KD f)) (hs : swapsWithSole [tg] e pos.line X.env = pure false := by rfl) (hw : swappedStores [tg] e X.env = pure none := by rfl)
    (h1 : (assignEach [tg] X.env).map (·.2) = [assign tg X.env] := by rfl) : PS X (.Assign [tg] e pos) (TSF T Wx as (asgT t f)) :=
  psImp (ps_asg he hg.1 hs hw h1) fun D σ H q => TSF.bind (κ := KD) q fun Z1 H1 v d env1 r1 s _ p => by
    cases e1 : stT t d env1 with
    | none => simp only [e1] at p; exact p.elim
    | some env2 =>
      simp only [e1] at p
      exact hg.2 Z1 H1 σ env1 v d env2 _ r1 s e1 fun σ' a' r' o' => p Z1 H1 σ' a' r' ((Adv.refl (O := fun a => Owns σ env1 a ∨ KD.ext v d a) r1.ex).weak fun a h => .inl (o' a h))
def par2 (i j : Nat) (f g : M W) : M Fl := f >>= fun x => g >>= fun y => fun env => (setE i x env).bind fun _ => setE j y
theorem sd_par {i j : Nat} {x y : Str} {a b : Expr} {px py pt pos : Pos} {kt k2 pt2} {f g : M W} (hc : X.calm = true) (hN : X.N.Nodup) (hi : X.N[i]? = some x) (hj : X.N[j]? = some y) (hij : i ≠ j) (ai : i ∈ as) (aj : j ∈ as)
    (hx : X.env.scope.names.lookup x = some .local) (hy : X.env.scope.names.lookup y = some .local) (ha : PE X a (TF T Wx KW f)) (hb : PE X b (TF T Wx KW g))
    (sa : starEach [a, b] X.env = (false, eval a X.env) :: starEach [b] X.env := by rfl) (sb : starEach [b] X.env = (false, eval b X.env) :: starEach [] X.env := by rfl)
    (hw : swappedStores [.Tuple [.Name x px, .Name y py] kt pt] (.Tuple [a, b] k2 pt2) X.env = pure (some [x, y]) := by rfl)
    (hs : swapsWithSole [.Tuple [.Name x px, .Name y py] kt pt] (.Tuple [a, b] k2 pt2) pos.line X.env = pure false := by rfl) :
    PS X (.Assign [.Tuple [.Name x px, .Name y py] kt pt] (.Tuple [a, b] k2 pt2) pos) (TSF T Wx as (par2 i j f g)) :=
  psImp (ps_par hc hN hi hj hij hx hy (pa_cons ha (pa_cons hb pa_nil sb) sa) hw hs) fun D σ H q => TSF.bind (κ := KW) q fun Z1 H1 v w env1 r1 s1 x1 p => by
    refine ⟨Z1, env1, r1, ?_⟩
    have p1 := p.noext r1.ex
    have p1 : PostS T Wx as σ (Owns σ env1) Z1 H1 ((g env1).bind fun y env => (setE i w env).bind fun _ => setE j y) D := p1
    have p0 : PostS T Wx as σ (fun a => Owns σ env1 a ∨ KW.ext v w a) Z1 H1 ((g env1).bind fun y env => (setE i w env).bind fun _ => setE j y) D := p
    cases eg : g env1 with
    | ok w2 env2 =>
      rw [eg] at p0
      intro Z2 H2 u a2 r2 s2 x2
      have n1 : ∀ a, KW.ext v w a → ¬ Owns σ env1 a := x1
      have s1' : Rw T Z2 H2 w v := s1.adv a2 fun ow a e => n1 a ⟨ow, e⟩
      have n2 : ∀ a, KW.ext v w a → ¬ Owns σ env2 a ∧ ¬ KW.ext u w2 a := fun a h => by
        have h0 : ¬ (Owns σ env2 a ∨ KW.ext u w2 a) := fun z => by
          rcases a2.ow a z with q | q
          · exact n1 a h q
          · have s1a : Rw T Z1 H1 w (.ref a) := by rw [← h.2]; exact s1
            obtain ⟨_, o, e⟩ := s1a.there h.1
            rw [q] at e; cases e
        exact ⟨fun z => h0 (.inl z), fun z => h0 (.inr z)⟩
      refine ⟨v, u, rfl, ?_⟩
      have p2 : PostS T Wx as σ (fun a => Owns σ env1 a ∨ KW.ext v w a) Z1 H1 ((setE i w env2).bind fun _ => setE j w2) D := p0
      unfold setE at p2
      split at p2
      · rename_i hl
        obtain ⟨r3, o3⟩ := r2.bindS hl s1' fun a h => (n2 a h).1
        have p3 : PostS T Wx as σ (fun a => Owns σ env1 a ∨ KW.ext v w a) Z1 H1 (setE j w2 (env2.set i (some w))) D := p2
        have n3 : ∀ a, KW.ext u w2 a → ¬ Owns (σ.set i (some v)) (env2.set i (some w)) a := fun a h z => by
          rcases o3 a z with q | q
          · exact x2 a h q
          · exact (n2 a q).2 h
        refine setE_post (σ := σ.set i (some v)) aj r3 s2 n3 (PostS.later (fun k hk => by rw [List.getElem?_set_ne (fun e => hk (by rw [← e]; exact ai))]) ?_ p3)
        refine ⟨a2.zz, a2.zh, fun b o hb hn => a2.fr b o hb fun z => hn (.inl z), fun b hb => ?_, fun b o hb => (a2.nz b o hb).imp id (Or.imp .inl id)⟩
        rcases hb with hb | hb
        · rcases o3 b hb with q | q
          · exact (a2.ow b (.inl q)).imp .inl id
          · exact .inl (.inr q)
        · exact (a2.ow b (.inr hb)).imp .inl id
      · exact p2.elim
    | exc c ns ds env2 =>
      rw [eg] at p1
      exact fun Z2 H2 cls dd a2 r2 k2 => p1 Z2 H2 σ cls dd (fun _ _ => rfl) a2 r2 k2
    | bad => rw [eg] at p1; exact p1
end
structure GI (T : Cl) (Z Lk : Hp) (J : It) (items : List D) : Prop where
  len : items.length ≤ sizeLine
  walk : ∃ (G : Hp → Prop) (Y : Nat → Hp → V → Hp → Prop), Walk J items.length G Y ∧ (∀ H, Ex Z H → Ex Lk H → G H) ∧ ∀ i H v H', i < items.length → Ex Z H → Ex Lk H → Y i H v H' → ∃ d, items[i]? = some d ∧
    ((H' = H ∧ Sh T Z d v) ∨ ∃ p vs ds, v = .ref p ∧ H p = none ∧ H' = upd H p (.tup vs) ∧ d = .tup ds ∧ ds.length ≤ sizeLine ∧ ShL T Z ds vs)
def none' : Hp := fun _ => none
theorem ex_none {H : Hp} : Ex none' H := fun _ _ h => by cases h
def KI (Lk : Hp) : Kind (List D) It := ⟨fun T Z _ J items => GI T Z Lk J items, fun _ _ _ => False⟩
section
variable {X : Cx} {T : Cl} {Wx : WX} {tg e : Expr} {f : M D}
def itL : D → Option (List D)
  | .lst xs => some xs
  | _ => none
def itS : D → Option (List D)
  | .str s => some (s.map fun c => .str [c])
  | _ => none
def itM (p : D → Option (List D)) (f : M D) : M (List D) := f >>= fun d => ofO (p d)
theorem gi_list {Z Lk : Hp} {a : Addr} {vs : List V} {ds : List D} (K : PySem.W.Frag) (h : Z a = some (.lst vs) ∨ Lk a = some (.lst vs)) (hl : ds.length ≤ sizeLine) (s : ShL T Z ds vs) : GI T Z Lk (Itl K a) ds := by
  refine ⟨hl, _, _, s.length ▸ walk_list (K := K) (a := a) (xs := vs), fun H e1 e2 => SqL.of (h.elim (e1 _ _) (e2 _ _)), fun i H v H' hi _ _ y => ?_⟩
  obtain ⟨d, e1, e2⟩ := s.getV y.2
  exact ⟨d, e1, .inl ⟨y.1, e2⟩⟩
theorem ofO_post {α β γ δ : Type} {κ : Kind γ δ} {o : Option α} {g : α → M γ} {σ : St} {O : Addr → Prop} {Z H : Hp} {env : Env'} {Q : δ → Hp → Prop} (p : Post T Wx κ σ O Z H ((ofO o >>= g) env) Q) : ∃ x, o = some x ∧ Post T Wx κ σ O Z H (g x env) Q := by
  cases o with
  | none => exact p.elim
  | some x => exact ⟨x, rfl, p⟩
theorem ofO_end {α β : Type} {κ : Kind α β} {o : Option α} {σ : St} {O : Addr → Prop} {Z H : Hp} {env : Env'} {Q : β → Hp → Prop} (p : Post T Wx κ σ O Z H (ofO o env) Q) : ∃ x, o = some x ∧ Post T Wx κ σ O Z H (.ok x env) Q := by
  cases o with
  | none => exact p.elim
  | some x => exact ⟨x, rfl, p⟩
theorem pi_l (he : PE X e (TF T Wx KD f)) : PI X tg e (TF T Wx (KI none') (itM itL f)) := piImp (pi_list he) fun σ H R q =>
  TF.bind q fun Z1 H1 v d env1 r1 s _ p => by
    obtain ⟨items, e1, p⟩ := ofO_end p
    cases d <;> simp only [itL] at e1 <;> cases e1
    obtain ⟨a, vs, rfl, h1, hl, s1⟩ := s
    exact ⟨a, rfl, ⟨vs, SqL.of (r1.ex _ _ h1)⟩, p Z1 H1 _ ((Adv.refl (O := fun y => Owns σ env1 y ∨ KD.ext (V.ref a) _ y) r1.ex).weak fun y hy => .inl (hy.elim id fun z => z.elim)) r1 (gi_list X.K (.inl h1) hl s1) fun _ z => z.elim⟩
theorem pi_s_aux {σ : St} {Z1 H1 : Hp} {env1 : Env'} {v : V} {z : List Nat} {items : List D} {R : It → Hp → Prop} (r1 : REnv T Z1 H1 σ env1) (s : KD.rel T Z1 H1 v (.str z)) (e1 : itS (.str z) = some items)
    (p : Post T Wx (KI none') σ (fun a => Owns σ env1 a ∨ KD.ext v (.str z) a) Z1 H1 (.ok items env1) R) : ∃ x, v = .str x ∧ R (Its x) H1 := by
  simp only [itS] at e1
  cases e1
  obtain ⟨rfl, hl⟩ := s
  refine ⟨_, rfl, p Z1 H1 _ ((Adv.refl (O := fun y => Owns σ env1 y ∨ KD.ext (V.str ⟨z.toArray⟩) _ y) r1.ex).weak fun y hy => .inl (hy.elim id fun q => q.elim)) r1 ⟨by simpa using hl, _, _, (by
    have w := walk_str (z := (⟨z.toArray⟩ : Str))
    have e : (⟨z.toArray⟩ : Str).cps.size = (z.map fun c => D.str [c]).length := by simp
    rw [e] at w
    exact w), fun H _ _ => trivial, fun i H v H' hi _ _ y => ?_⟩ fun _ q => q.elim⟩
  obtain ⟨y1, c, y2, y3⟩ := y
  refine ⟨.str [c], ?_, .inl ⟨y1, ?_⟩⟩
  · rw [List.getElem?_map]
    have : z[i]? = some c := by simpa using y2
    rw [this]; rfl
  · rw [y3]; exact ⟨rfl, by show 1 ≤ 16777216; decide⟩
theorem pi_s (he : PE X e (TF T Wx KD f)) : PI X tg e (TF T Wx (KI none') (itM itS f)) := piImp (pi_str he) fun σ H R q =>
  TF.bind q fun Z1 H1 v d env1 r1 s _ p => by
    obtain ⟨items, e1, p⟩ := ofO_end p
    cases d with
    | str z => exact pi_s_aux r1 s e1 p
    | _ => simp only [itS] at e1; cases e1
def rng (lo : Int) (n : Nat) : List D := (List.range n).map fun (i : Nat) => .int (lo + i)
theorem rng_len (lo : Int) (n : Nat) : (rng lo n).length = n := by simp [rng]
def inr (i : Int) : Bool := decide (-(2 ^ 62) ≤ i) && decide (i < 2 ^ 62)
def itR1 : D → Option (List D)
  | .int j => if inr j = true ∧ j.toNat ≤ lim then some (rng 0 j.toNat) else none
  | _ => none
def itR2 : D → D → Option (List D)
  | .int i, .int j => if inr i = true ∧ inr j = true ∧ (j - i).toNat ≤ lim then some (rng i (j - i).toNat) else none
  | _, _ => none
theorem gi_range {Z : Hp} {lo : Int} {n : Nat} (hl : n ≤ lim) : GI T Z none' (Itr lo n) (rng lo n) := by
  refine ⟨by rw [rng_len]; exact hl, _, _, (by rw [rng_len]; exact walk_range), fun _ _ _ => trivial, fun i H v H' hi _ _ y => ?_⟩
  obtain ⟨y1, y2⟩ := y
  rw [rng_len] at hi
  exact ⟨.int (lo + i), by unfold rng; rw [List.getElem?_map, List.getElem?_range hi]; rfl, .inl ⟨y1, y2⟩⟩
variable {a b : Expr} {g : M D} {p pos : Pos}
theorem pi_r1 (hg : Gl X "range") (hm : X.mg "range" = none) (ha : PE X a (TF T Wx KD f)) (hs : starEach [a] X.env = [(false, eval a X.env)] := by rfl) : PI X tg (.Call (.Name "range" p) [a] [] pos) (TF T Wx (KI none') (itM itR1 f)) :=
  piImp (pi_range1 hg hm (pa_cons ha pa_nil hs) hs) fun σ H R q => TF.bind q fun Z1 H1 v d env1 r1 s _ p => by
    obtain ⟨items, e1, p⟩ := ofO_end p
    cases d with
    | int j =>
      simp only [itR1] at e1
      split at e1
      · rename_i hj
        cases e1
        obtain rfl := s
        simp only [inr, Bool.and_eq_true, decide_eq_true_eq] at hj
        exact ⟨j, rfl, hj.1.1, hj.1.2, p Z1 H1 _ ((Adv.refl (O := fun y => Owns σ env1 y ∨ KD.ext (V.int j) (.int j) y) r1.ex).weak fun y hy => .inl (hy.elim id fun z => z.elim)) r1 (gi_range hj.2) fun _ z => z.elim⟩
      · cases e1
    | _ => simp only [itR1] at e1; cases e1
/-- two of them -/
def itM2 (p : D → D → Option (List D)) (f g : M D) : M (List D) := f >>= fun d => g >>= fun e => ofO (p d e)
theorem tf22 {α β : Type} {κ : Kind α β} {o : D → D → Option α} {σ : St} {H : Hp} {Q : β → Hp → Prop} {R : V → V → Hp → Prop} (q : TF T Wx κ (f >>= fun d => g >>= fun e => ofO (o d e)) σ H Q)
    (k : ∀ Z1 H1 v u d e w env1, REnv T Z1 H1 σ env1 → Sh T Z1 d v → Sh T Z1 e u → o d e = some w → Post T Wx κ σ (Owns σ env1) Z1 H1 (.ok w env1) Q → R v u H1) : TF T Wx KD f σ H fun x H1 => TF T Wx KD g σ H1 fun y H2 => R x y H2 :=
  TF.bind q fun Z1 H1 v d env1 r1 s1 _ p => by
    have p := p.later ((Adv.refl (O := fun a => Owns σ env1 a ∨ KD.ext v d a) r1.ex).weak (O2 := Owns σ env1) fun y hy => .inl hy)
    have p : Post T Wx κ σ (Owns σ env1) Z1 H1 ((g env1).bind fun e => ofO (o d e)) Q := p
    refine ⟨Z1, env1, r1, ?_⟩
    cases eg : g env1 with
    | ok e env2 =>
      rw [eg] at p
      intro Z2 H2 u adv r2 s2 x2
      have p := p.later adv
      have p : Post T Wx κ σ (fun a => Owns σ env2 a ∨ KD.ext u e a) Z2 H2 (ofO (o d e) env2) Q := p
      obtain ⟨w, e1, p⟩ := ofO_end p
      exact k Z2 H2 v u d e w env2 r2 (Sh.mono adv.zz d v s1) s2 e1 (p.later ((Adv.refl (O := fun a => Owns σ env2 a ∨ KD.ext u e a) r2.ex).weak fun y hy => .inl hy))
    | exc c ns ds env2 => rw [eg] at p; exact p
    | bad => rw [eg] at p; exact p
def enumF (k : Nat) : List D → List D
  | [] => []
  | d :: ds => .tup [.int (k : Nat), d] :: enumF (k + 1) ds
theorem enumF_len : ∀ (k : Nat) (ds : List D), (enumF k ds).length = ds.length
  | _, [] => rfl
  | k, d :: ds => by simp [enumF, enumF_len (k + 1) ds]
theorem enumF_get : ∀ (k : Nat) (ds : List D) (i : Nat) (d : D), ds[i]? = some d → (enumF k ds)[i]? = some (.tup [.int ((k + i : Nat) : Int), d])
  | _, [], _, _, h => by simp at h
  | k, x :: ds, 0, d, h => by simp at h; subst h; simp [enumF]
  | k, x :: ds, i + 1, d, h => by
    have := enumF_get (k + 1) ds i d (by simpa using h)
    simp only [enumF, List.getElem?_cons_succ, this]
    congr 5
    omega
def itE : D → Option (List D)
  | .lst xs => some (enumF 0 xs)
  | _ => none
theorem pi_e {elts : List Expr} {kk : Nat} {tpos : Pos} (hg : Gl X "enumerate") (hm : X.mg "enumerate" = none) (ha : PE X a (TF T Wx KD f)) (hs : starEach [a] X.env = [(false, eval a X.env)] := by rfl) :
    PI X (.Tuple elts kk tpos) (.Call (.Name "enumerate" p) [a] [] pos) (TF T Wx (KI none') (itM itE f)) :=
  piImp (pi_enum hg hm (pa_cons ha pa_nil hs) hs) fun σ H R q => TF.bind q fun Z1 H1 v d env1 r1 s _ p => by
    obtain ⟨items, e1, p⟩ := ofO_end p
    cases d with
    | lst ds =>
      simp only [itE] at e1
      cases e1
      obtain ⟨a, vs, rfl, h1, hl, s1⟩ := s
      refine ⟨a, vs, rfl, SqL.of (r1.ex _ _ h1), p Z1 H1 _ ((Adv.refl (O := fun y => Owns σ env1 y ∨ KD.ext (V.ref a) (.lst ds) y) r1.ex).weak fun y hy => .inl (hy.elim id fun z => z.elim)) r1 ⟨by rw [enumF_len]; exact hl, _, _, (by
        rw [enumF_len, ← s1.length]; exact walk_enum (K := X.K) (a := a) (xs := vs)), fun H e1 _ => SqL.of (e1 _ _ h1), fun i H v H' hi _ _ y => ?_⟩ fun _ z => z.elim⟩
      obtain ⟨q, x, z, y1, y2, y3, y4, y5⟩ := y
      obtain ⟨d, e1, e2⟩ := s1.getV y5
      have y4 : V.int (i : Nat) = x := by simpa using y4
      refine ⟨_, enumF_get 0 ds i d e1, .inr ⟨q, [x, z], [.int ((0 + i : Nat) : Int), d], y1, y2, y3, rfl, by show 2 ≤ 16777216; decide, ⟨x, [z], rfl, ?_, z, [], rfl, e2, rfl⟩⟩⟩
      rw [← y4, Nat.zero_add]
      rfl
    | _ => simp only [itE] at e1; cases e1
end
def forM (t : Tg) (F : M Fl) : List D → M Fl
  | [] => M.pure .nx
  | d :: ds => fun env => match stT t d env with
    | none => .bad
    | some env1 => match F env1 with
      | .ok .nx e => forM t F ds e
      | .ok .cont e => forM t F ds e
      | .ok .brk e => .ok .nx e
      | .ok (.ret w) e => .ok (.ret w) e
      | .exc c ns xs e => .exc c ns xs e
      | .bad => .bad
section
variable {X : Cx} {T : Cl} {Wx : WX} {as : List Nat} {tg : Expr} {t : Tg} {g : TG} {F : M Fl} {D : Ends}
theorem lock_later {Lk H H' Z Z' : Hp} {O O' : Addr → Prop} (a : Adv O Z H O' Z' H') (l : Ex Lk H) (n : ∀ p o, Lk p = some o → ¬ O p) : Ex Lk H' ∧ ∀ p o, Lk p = some o → ¬ O' p := by
  refine ⟨fun p o h => a.fr p o (l p o h) (n p o h), fun p o h z => ?_⟩
  rcases a.ow p z with q | q
  · exact n p o h q
  · rw [l p o h] at q; cases q
theorem for_core {tb : TS} {J : It} {items : List Wc.D} {Lk Z H : Hp} {σ : St} {env : Env'} (hg : GT X T as tg t g) (hb : ∀ D σ H, TSF T Wx as F D σ H → tb D σ H) (gi : GI T Z Lk J items) (r : REnv T Z H σ env) (lk : Ex Lk H) (ln : ∀ p o, Lk p = some o → ¬ Owns σ env p)
    (p : PostS T Wx as σ (Owns σ env) Z H (forM t F items env) D) :
    ∃ W : Nat → Nat → St → Hp → Prop, (∃ m, W 0 m σ H) ∧ ∀ i m σ H, W i m σ H →
      (J.stop i H ∧ D.nx σ H) ∨ (J.go i H ∧ ∃ N : St → Hp → Prop, (∀ σ' H', N σ' H' → ∃ m', m' < m ∧ W (i + 1) m' σ' H') ∧ ∀ x H', J.yld i H x H' → g x σ H' fun σ2 H2 => tb { D with nx := N, ct := N, bk := D.nx } σ2 H2) := by
  obtain ⟨hl, G, Y, wk, hG, hY⟩ := gi
  refine for_it wk (fun i σ' H' => ∃ Z' env', REnv T Z' H' σ' env' ∧ Ex Z Z' ∧ Ex Lk H' ∧ (∀ p o, Lk p = some o → ¬ Owns σ' env' p) ∧ PostS T Wx as σ' (Owns σ' env') Z' H' (forM t F (items.drop i) env') D)
    ⟨Z, env, r, Evl.Ex.refl Z, lk, ln, by rw [List.drop_zero]; exact p⟩ (fun i σ' H' _ ⟨Z', env', r', z', l', _, _⟩ => hG H' (z'.trans r'.ex) l') ?_ ?_
  · rintro i x σ1 H1 H2 hi ⟨Z1, env1, r1, z1, l1, n1, p1⟩ y
    obtain ⟨d, e1, hd⟩ := hY i H1 x H2 hi (z1.trans r1.ex) l1 y
    have ed : items.drop i = d :: items.drop (i + 1) := by
      rw [List.drop_eq_getElem_cons hi]
      congr 1
      rw [List.getElem?_eq_getElem hi] at e1
      exact Option.some.inj e1
    rw [ed] at p1
    have key : ∀ {Z2 : Hp}, REnv T Z2 H2 σ1 env1 → Ex Z1 Z2 → Adv (Owns σ1 env1) Z1 H1 (Owns σ1 env1) Z2 H2 → Sh T Z2 d x → g x σ1 H2 fun σ2 H3 => tb { D with nx := fun σ' H' => ∃ Z' env', REnv T Z' H' σ' env' ∧ Ex Z Z' ∧ Ex Lk H' ∧ (∀ p o, Lk p = some o → ¬ Owns σ' env' p) ∧ PostS T Wx as σ' (Owns σ' env') Z' H' (forM t F (items.drop (i + 1)) env') D, ct := fun σ' H' => ∃ Z' env', REnv T Z' H' σ' env' ∧ Ex Z Z' ∧ Ex Lk H' ∧ (∀ p o, Lk p = some o → ¬ Owns σ' env' p) ∧ PostS T Wx as σ' (Owns σ' env') Z' H' (forM t F (items.drop (i + 1)) env') D, bk := D.nx } σ2 H3 := by
      intro Z2 r2 z2 a2 s2
      have p2 := PostS.later (σ1 := σ1) (fun _ _ => rfl) a2 p1
      simp only [forM] at p2
      cases es : stT t d env1 with
      | none => rw [es] at p2; exact p2.elim
      | some env2 =>
        rw [es] at p2
        simp only at p2
        refine hg.2 Z2 H2 σ1 env1 x d env2 _ r2 s2 es fun σ2 q2 r3 o3 => hb _ _ _ ⟨Z2, env2, r3, ?_⟩
        obtain ⟨l2, n2⟩ := lock_later a2 l1 n1
        have a3 : Adv (Owns σ1 env1) Z2 H2 (Owns σ2 env2) Z2 H2 := (Adv.refl (O := Owns σ1 env1) r2.ex).weak o3
        obtain ⟨l3, n3⟩ := lock_later a3 l2 n2
        have p3 := PostS.later q2 a3 p2
        cases eF : F env2 with
        | ok fl env3 =>
          rw [eF] at p3
          intro Z4 H4 σ4 q4 r4
          cases fl with
          | nx =>
            intro a4
            obtain ⟨l4, n4⟩ := lock_later a4 l3 n3
            exact ⟨Z4, env3, r4, (z1.trans z2).trans a4.zz, l4, n4, PostS.later q4 a4 p3⟩
          | cont =>
            intro a4
            obtain ⟨l4, n4⟩ := lock_later a4 l3 n3
            exact ⟨Z4, env3, r4, (z1.trans z2).trans a4.zz, l4, n4, PostS.later q4 a4 p3⟩
          | brk => exact fun a4 => p3 Z4 H4 σ4 q4 r4 a4
          | ret w => exact fun v a4 => p3 Z4 H4 σ4 q4 r4 v a4
        | exc c ns xs env3 => rw [eF] at p3; exact p3
        | bad => rw [eF] at p3; exact p3
    rcases hd with ⟨rfl, s⟩ | ⟨q, vs, ds, rfl, hq, rfl, rfl, hl2, s⟩
    · exact key r1 (Evl.Ex.refl Z1) (Adv.refl r1.ex) (Sh.mono z1 d x s)
    · have zq : Z1 q = none := Evl.fresh_back r1.ex hq
      exact key (r1.new hq) (Evl.Ex.new zq) (Adv.new r1.ex hq) ⟨q, vs, rfl, upd_same, hl2, ShL.mono (z1.trans (Evl.Ex.new zq)) ds vs s⟩
  · rintro σ1 H1 ⟨Z1, env1, r1, z1, l1, n1, p1⟩
    rw [List.drop_length] at p1
    exact p1 Z1 H1 σ1 (fun _ _ => rfl) r1 (Adv.refl r1.ex)
theorem sd_for {iter : Expr} {body : List Stmt} {f : M (List Wc.D)} {pos : Pos} (hp : PassesOwn (model X.prog X.w) X.A X.env X.xe) (hc : X.calm = true) (hi : PI X tg iter (TF T Wx (KI none') f)) (hg : GT X T as tg t g) (hb : PSs X body (TSF T Wx as F))
    (hs : ∀ x, foldedSetIterable iter X.env x = pure x := by intro _; rfl) : PS X (.For tg iter body [] pos) (TSF T Wx as (f >>= forM t F)) :=
  psImp (ps_for hp hc hi hg.1 hb hs) fun D σ H q => TSF.bind (κ := KI none') q fun Z1 H1 J items env1 r1 gi _ p =>
    for_core hg (fun _ _ _ z => z) gi r1 ex_none (fun _ _ h => by cases h) (p.noext r1.ex)
/-- over a list that a name holds; meanwhile the name is not to be used -/
def lockR (i : Nat) (w : W) : R Fl → R Fl
  | .ok fl e => .ok fl (e.set i (some w))
  | .exc c ns ds e => .exc c ns ds (e.set i (some w))
  | .bad => .bad
def forN (i : Nat) (t : Tg) (F : M Fl) : M Fl := fun env => match env[i]? with
  | some (some w) => match itL w.view with
    | some xs => lockR i w (forM t F xs (env.set i none))
    | none => .bad
  | _ => .bad
theorem itL_own {w : W} {xs : List Wc.D} {Z H : Hp} {v : V} (h : itL w.view = some xs) (e : Ex Z H) (r : Rw T Z H w v) : ∃ a vs, v = .ref a ∧ H a = some (.lst vs) ∧ xs.length ≤ sizeLine ∧ ShL T Z xs vs ∧ (Z a = some (.lst vs) ∨ w.own = true) := by
  cases w with
  | sh d =>
    cases d <;> simp only [W.view, itL] at h <;> cases h
    obtain ⟨a, vs, e1, e2, e3, e4⟩ := r
    exact ⟨a, vs, e1, e _ _ e2, e3, e4, .inl e2⟩
  | ml ds =>
    simp only [W.view, itL] at h
    cases h
    obtain ⟨a, vs, e1, _, e2, e3, e4⟩ := r
    exact ⟨a, vs, e1, e2, e3, e4, .inr rfl⟩
  | mo c ns ds => simp only [W.view, itL] at h; cases h
  | md ks ds => simp only [W.view, itL] at h; cases h
/-- a slot that was set aside comes back -/
theorem unlock {σ σ' : St} {Z H Z' H' : Hp} {env env' : Env'} {i : Nat} {w : W} {P : Addr → Prop} (hi : i ∉ as) (r : REnv T Z H σ env) (ei : env[i]? = some (some w)) (q : ∀ j : Nat, j ∉ as → σ'[j]? = σ[j]?)
    (a : Adv (Owns σ (env.set i none)) Z H (fun x => Owns σ' env' x ∨ P x) Z' H') (r' : REnv T Z' H' σ' env') :
    Adv (Owns σ env) Z H (fun x => Owns σ' (env'.set i (some w)) x ∨ P x) Z' H' ∧ REnv T Z' H' σ' (env'.set i (some w)) ∧ ∀ x, Owns σ' (env'.set i (some w)) x → Owns σ' env' x ∨ (w.own = true ∧ σ[i]? = some (some (.ref x))) := by
  obtain ⟨v, hv, hw⟩ := r.at_ i w ei
  have hv' : σ'[i]? = some (some v) := by rw [q i hi]; exact hv
  have hil : i < env'.length := by
    rw [r'.len]
    exact (List.getElem?_eq_some_iff.mp hv').1
  have hn : ∀ p, w.own = true → v = .ref p → ¬ Owns σ (env.set i none) p := fun p ow e => r.hidden ei ow (by rw [hv, e])
  have hw' : Rw T Z' H' w v := hw.adv a fun ow p e => hn p ow e
  have hn' : ∀ p, w.own = true → v = .ref p → ¬ Owns σ' env' p := fun p ow e z => by
    rcases a.ow p (.inl z) with y | y
    · exact hn p ow e y
    · have hw2 : Rw T Z H w (.ref p) := by rw [← e]; exact hw
      obtain ⟨_, o, eo⟩ := hw2.there ow
      rw [y] at eo; cases eo
  have sub : ∀ x, Owns σ' (env'.set i (some w)) x → Owns σ' env' x ∨ (w.own = true ∧ σ[i]? = some (some (.ref x))) := fun x z => by
    rcases z.set_sub with z | ⟨u, e1, e2, e3⟩
    · exact .inl z
    · cases e1
      exact .inr ⟨e2, by rw [← q i hi]; exact e3⟩
  refine ⟨((a.more fun x z => z.hide).wid (P := fun x => w.own = true ∧ σ[i]? = some (some (.ref x))) fun x z => ⟨i, w, ei, z.1, z.2⟩).weak fun x z => ?_, ?_, sub⟩
  · rcases z with z | z
    · rcases sub x z with y | y
      · exact .inl (.inl y)
      · exact .inr y
    · exact .inl (.inr z)
  · have r2 := (r'.hide (i := i)).ins (w := w) hv' (by rw [List.getElem?_set]; simp [hil]) hw' fun ow p e z => hn' p ow e z.hide
    rw [List.set_set] at r2
    exact r2
theorem lockR_post {σ : St} {Z H : Hp} {env : Env'} {i : Nat} {w : W} {r0 : R Fl} (hi : i ∉ as) (r : REnv T Z H σ env) (ei : env[i]? = some (some w)) (p : PostS T Wx as σ (Owns σ env) Z H (lockR i w r0) D) : PostS T Wx as σ (Owns σ (env.set i none)) Z H r0 D := by
  cases r0 with
  | ok fl env' =>
    intro Z' H' σ' q r'
    cases fl with
    | nx =>
      intro a
      obtain ⟨b1, b2, _⟩ := unlock (P := fun _ => False) hi r ei q (a.weak fun x z => z.elim id fun y => y.elim) r'
      exact p Z' H' σ' q b2 (b1.weak fun x z => .inl z)
    | brk =>
      intro a
      obtain ⟨b1, b2, _⟩ := unlock (P := fun _ => False) hi r ei q (a.weak fun x z => z.elim id fun y => y.elim) r'
      exact p Z' H' σ' q b2 (b1.weak fun x z => .inl z)
    | cont =>
      intro a
      obtain ⟨b1, b2, _⟩ := unlock (P := fun _ => False) hi r ei q (a.weak fun x z => z.elim id fun y => y.elim) r'
      exact p Z' H' σ' q b2 (b1.weak fun x z => .inl z)
    | ret u =>
      intro v a k x
      obtain ⟨b1, b2, b3⟩ := unlock (P := KW.ext v u) hi r ei q a r'
      refine p Z' H' σ' q b2 v b1 k fun y hy z => ?_
      rcases b3 y z with z | z
      · exact x y hy z
      · obtain ⟨v0, hv0, hw0⟩ := r.at_ i w ei
        rw [z.2] at hv0; cases hv0
        rcases a.ow y (.inr hy) with g | g
        · exact r.hidden ei z.1 z.2 g
        · obtain ⟨_, o, eo⟩ := hw0.there z.1
          rw [g] at eo; cases eo
  | exc c ns ds env' =>
    intro Z' H' σ' cls dd q a r' k
    obtain ⟨b1, b2, _⟩ := unlock (P := fun _ => False) hi r ei q (a.weak fun x z => z.elim id fun y => y.elim) r'
    exact p Z' H' σ' cls dd q (b1.weak fun x z => .inl z) b2 k
  | bad => exact p
theorem sd_forN {iter : Expr} {body : List Stmt} {i : Nat} {pos : Pos} (hp : PassesOwn (model X.prog X.w) X.A X.env X.xe) (hc : X.calm = true) (hi : PE X iter (tVar i)) (hia : i ∉ as) (hg : GT X T as tg t g) (hb : PSs X body (TSF T Wx as F))
    (hs : ∀ x, foldedSetIterable iter X.env x = pure x := by intro _; rfl) : PS X (.For tg iter body [] pos) (TSF T Wx as (forN i t F)) :=
  psImp (ps_for hp hc (pi_list hi) hg.1 hb hs) fun D σ H ⟨Z, env, r, p⟩ => by
    unfold forN at p
    cases ei : env[i]? with
    | none => rw [ei] at p; exact p.elim
    | some ow =>
      cases ow with
      | none => rw [ei] at p; exact p.elim
      | some w =>
        rw [ei] at p
        simp only at p
        cases ex : itL w.view with
        | none => rw [ex] at p; exact p.elim
        | some xs =>
          rw [ex] at p
          simp only at p
          obtain ⟨v, hv, hw⟩ := r.at_ i w ei
          obtain ⟨a, vs, rfl, ha, hl, s, zo⟩ := itL_own ex r.ex hw
          refine ⟨_, hv, a, rfl, ⟨vs, SqL.of ha⟩, ?_⟩
          have lk : ∀ (p : Addr) (o : HO), (fun b => if b = a ∧ w.own = true then some (HO.lst vs) else none : Hp) p = some o → p = a ∧ w.own = true ∧ o = .lst vs := fun p o h => by
            simp only at h
            split at h
            · rename_i hc; cases h; exact ⟨hc.1, hc.2, rfl⟩
            · cases h
          refine for_core (Lk := fun b => if b = a ∧ w.own = true then some (HO.lst vs) else none) hg (fun _ _ _ z => z) (gi_list X.K (zo.imp id fun ow => by simp [ow]) hl s) (r.hide (i := i)) (fun p o h => ?_) (fun p o h z => ?_) (lockR_post hia r ei p)
          · obtain ⟨rfl, _, rfl⟩ := lk p o h
            exact ha
          · obtain ⟨rfl, ow, rfl⟩ := lk p o h
            exact r.hidden ei ow hv z
def whileM (b : M Bool) (F : M Fl) : Nat → M Fl
  | 0 => stuck
  | n + 1 => b >>= fun c => if c = true then (fun env => match F env with
      | .ok .nx e => whileM b F n e
      | .ok .cont e => whileM b F n e
      | .ok .brk e => .ok .nx e
      | .ok (.ret w) e => .ok (.ret w) e
      | .exc c ns xs e => .exc c ns xs e
      | .bad => .bad) else M.pure .nx
def whilF (fu : Env' → Nat) (b : M Bool) (F : M Fl) : M Fl := fun env => whileM b F (fu env) env
theorem sd_while {c : Expr} {body : List Stmt} {b : M Bool} {pos : Pos} (fu : Env' → Nat) (hp : PassesOwn (model X.prog X.w) X.A X.env X.xe) (hc : PT X c (TF T Wx KB b)) (hb : PSs X body (TSF T Wx as F)) : PS X (.While c body [] pos) (TSF T Wx as (whilF fu b F)) :=
  psImp (ps_while hp hc hb) fun D σ H ⟨Z, env, r, p⟩ => by
    refine ⟨fun m σ' H' => TSF T Wx as (whileM b F m) D σ' H', ⟨fu env, Z, env, r, p⟩, fun m σ1 H1 q => ?_⟩
    cases m with
    | zero => obtain ⟨_, _, _, z⟩ := q; exact z.elim
    | succ m =>
      refine TSF.bind (κ := KB) q fun Z2 H2 v d env2 r2 e _ p2 => ?_
      have e : v = d := e
      subst e
      have p2 := p2.noext r2.ex
      cases v with
      | false => exact p2 Z2 H2 σ1 (fun _ _ => rfl) r2 (Adv.refl r2.ex)
      | true =>
        refine ⟨fun σ' H' => TSF T Wx as (whileM b F m) D σ' H', fun σ' H' z => ⟨m, Nat.lt_succ_self m, z⟩, Z2, env2, r2, ?_⟩
        have p3 : PostS T Wx as σ1 (Owns σ1 env2) Z2 H2 (match F env2 with
          | .ok .nx e => whileM b F m e
          | .ok .cont e => whileM b F m e
          | .ok .brk e => .ok .nx e
          | .ok (.ret w) e => .ok (.ret w) e
          | .exc c ns xs e => .exc c ns xs e
          | .bad => .bad) D := p2
        cases eF : F env2 with
        | ok fl env3 =>
          rw [eF] at p3
          intro Z4 H4 σ4 q4 r4
          cases fl with
          | nx => exact fun a4 => ⟨Z4, env3, r4, PostS.later q4 a4 p3⟩
          | cont => exact fun a4 => ⟨Z4, env3, r4, PostS.later q4 a4 p3⟩
          | brk => exact fun a4 => p3 Z4 H4 σ4 q4 r4 a4
          | ret w => exact fun v a4 => p3 Z4 H4 σ4 q4 r4 v a4
        | exc c ns xs env3 => rw [eF] at p3; exact p3
        | bad => rw [eF] at p3; exact p3
end
end Wc
namespace Wc
open PySem L2
def wipE (env : Env') : List Nat → Env'
  | [] => env
  | v :: vs => (wipE env vs).set v none
def rstE (env env' : Env') : List Nat → Env'
  | [] => env'
  | v :: vs => (rstE env env' vs).set v (env[v]?).join
theorem wipE_len (env : Env') : ∀ vs : List Nat, (wipE env vs).length = env.length
  | [] => rfl
  | v :: vs => by rw [wipE, List.length_set, wipE_len env vs]
theorem rstE_len (env env' : Env') : ∀ vs : List Nat, (rstE env env' vs).length = env'.length
  | [] => rfl
  | v :: vs => by rw [rstE, List.length_set, rstE_len env env' vs]
theorem wipE_out {env : Env'} {j : Nat} : ∀ {vs : List Nat}, j ∉ vs → (wipE env vs)[j]? = env[j]?
  | [], _ => rfl
  | v :: vs, h => by
    rw [wipE, List.getElem?_set_ne (fun e => h (by rw [e]; exact List.mem_cons_self))]
    exact wipE_out fun z => h (List.mem_cons_of_mem _ z)
theorem wipE_in {env : Env'} {j : Nat} : ∀ {vs : List Nat}, j ∈ vs → ∀ w, (wipE env vs)[j]? ≠ some (some w)
  | v :: vs, h, w => by
    rw [wipE]
    by_cases e : v = j
    · subst e
      rw [List.getElem?_set]
      simp
    · rw [List.getElem?_set_ne e]
      exact wipE_in ((List.mem_cons.mp h).elim (fun z => absurd z.symm e) id) w
theorem rstE_out {env env' : Env'} {j : Nat} : ∀ {vs : List Nat}, j ∉ vs → (rstE env env' vs)[j]? = env'[j]?
  | [], _ => rfl
  | v :: vs, h => by
    rw [rstE, List.getElem?_set_ne (fun e => h (by rw [e]; exact List.mem_cons_self))]
    exact rstE_out fun z => h (List.mem_cons_of_mem _ z)
theorem rstE_in {env env' : Env'} {j : Nat} {w : W} : ∀ {vs : List Nat}, j ∈ vs → (rstE env env' vs)[j]? = some (some w) → env[j]? = some (some w)
  | v :: vs, h, e => by
    rw [rstE] at e
    by_cases ev : v = j
    · subst ev
      rw [List.getElem?_set] at e
      simp at e
      cases q : env[v]? with
      | none => rw [q] at e; exact absurd e.2 (by simp)
      | some o => rw [q] at e; exact congrArg some (by simpa using e.2)
    · rw [List.getElem?_set_ne ev] at e
      exact rstE_in ((List.mem_cons.mp h).elim (fun z => absurd z.symm ev) id) e
theorem wipe_out {σ : St} {j : Nat} : ∀ {vs : List Nat}, j ∉ vs → (wipe σ vs)[j]? = σ[j]?
  | [], _ => rfl
  | v :: vs, h => by
    rw [wipe, List.getElem?_set_ne (fun e => h (by rw [e]; exact List.mem_cons_self))]
    exact wipe_out fun z => h (List.mem_cons_of_mem _ z)
theorem wipe_eq {σ σ2 : St} (hl : σ2.length = σ.length) : ∀ {vs ws : List Nat}, (∀ j, j ∈ vs → j ∈ ws) → (∀ i : Nat, i ∉ ws → σ2[i]? = (wipe σ ws)[i]?) → wipe σ2 ws = wipe σ ws := by
  intro vs ws _ h
  apply List.ext_getElem?
  intro j
  by_cases hj : j ∈ ws
  · have key : ∀ (τ : St) (us : List Nat), j ∈ us → (wipe τ us)[j]? = if j < τ.length then some none else none := by
      intro τ us
      induction us with
      | nil => intro h; simp at h
      | cons v us ih =>
        intro h
        rw [wipe]
        by_cases e : v = j
        · subst e
          rw [List.getElem?_set]
          simp [wipe_length]
        · rw [List.getElem?_set_ne e]
          exact ih ((List.mem_cons.mp h).elim (fun z => absurd z.symm e) id)
    rw [key _ _ hj, key _ _ hj, hl]
  · rw [wipe_out hj, h j hj]
mutual
theorem stT_len : ∀ (t : Tg) (d : D) (e e' : Env'), stT t d e = some e' → e'.length = e.length
  | .nm i, d, e, e', h => by
    simp only [stT] at h
    split at h
    · cases h; rw [List.length_set]
    · cases h
  | .tp l, .tup ds, e, e', h => stTs_len l ds e e' (by simpa only [stT] using h)
  | .tp l, .non, e, e', h => by simp only [stT] at h; cases h
  | .tp l, .bl _, e, e', h => by simp only [stT] at h; cases h
  | .tp l, .int _, e, e', h => by simp only [stT] at h; cases h
  | .tp l, .str _, e, e', h => by simp only [stT] at h; cases h
  | .tp l, .lst _, e, e', h => by simp only [stT] at h; cases h
  | .tp l, .dic _ _, e, e', h => by simp only [stT] at h; cases h
  | .tp l, .obj _ _ _, e, e', h => by simp only [stT] at h; cases h
  | .tp l, .scr _, e, e', h => by simp only [stT] at h; cases h
  | .tp l, .exn _ _ _, e, e', h => by simp only [stT] at h; cases h
  | .tp l, .fnv _, e, e', h => by simp only [stT] at h; cases h
theorem stTs_len : ∀ (ts : List Tg) (ds : List D) (e e' : Env'), stTs ts ds e = some e' → e'.length = e.length
  | [], [], e, e', h => by simp only [stTs] at h; cases h; rfl
  | [], _ :: _, e, e', h => by simp only [stTs] at h; cases h
  | _ :: _, [], e, e', h => by simp only [stTs] at h; cases h
  | t :: ts, d :: ds, e, e', h => by
    simp only [stTs] at h
    cases e3 : stT t d e with
    | none => rw [e3] at h; cases h
    | some e4 => rw [e3] at h; exact (stTs_len ts ds e4 e' h).trans (stT_len t d e e4 e3)
end
/-- the elements, one after another; own: the comprehension's own names -/
def lcGo (own : List Nat) (t : Tg) (b : M Bool) (f : M D) : List D → Env' → R (List D)
  | [], env => .ok [] env
  | d :: ds, env => match stT t d (wipE env own) with
    | none => .bad
    | some e1 => match b e1 with
      | .ok true e2 => (match f e2 with
        | .ok y e3 => (match lcGo own t b f ds e3 with
          | .ok ys e4 => .ok (y :: ys) e4
          | _ => .bad)
        | _ => .bad)
      | .ok false e2 => lcGo own t b f ds e2
      | _ => .bad
def lcM (own : List Nat) (t : Tg) (b : M Bool) (f : M D) (items : List D) : M W := fun env => match lcGo own t b f items env with
  | .ok xs e => .ok (.ml xs) (rstE env (wipE e own) own)
  | _ => .bad
def yesM : M Bool := M.pure true
abbrev W0 : WX := fun _ _ _ _ => False
section
variable {X : Cx} {T : Cl} {Wx : WX} {tg : Expr} {t : Tg} {g : TG} {b : M Bool} {f : M D} {tt : TT} {te : TE}
theorem REnv.wip {Z H : Hp} {σ : St} {env : Env'} (r : REnv T Z H σ env) (vs : List Nat) : REnv T Z H (wipe σ vs) (wipE env vs) ∧ ∀ a, Owns (wipe σ vs) (wipE env vs) a → Owns σ env a ∧ ∀ j w, j ∈ vs → env[j]? = some (some w) → w.own = true → σ[j]? = some (some (V.ref a)) → False := by
  have out : ∀ {j : Nat} {w : W}, (wipE env vs)[j]? = some (some w) → j ∉ vs ∧ env[j]? = some (some w) := fun {j w} h => by
    by_cases hj : j ∈ vs
    · exact absurd h (wipE_in hj w)
    · exact ⟨hj, by rw [← wipE_out hj]; exact h⟩
  refine ⟨⟨r.ex, by rw [wipE_len, wipe_length]; exact r.len, fun j w h => ?_, fun i j w u a ne h1 h2 o1 o2 s1 s2 => ?_⟩, fun a ⟨i, w, h1, o1, s1⟩ => ?_⟩
  · obtain ⟨hj, h⟩ := out h
    rw [wipe_out hj]
    exact r.at_ j w h
  · obtain ⟨hi, h1⟩ := out h1
    obtain ⟨hj, h2⟩ := out h2
    rw [wipe_out hi] at s1
    rw [wipe_out hj] at s2
    exact r.sep i j w u a ne h1 h2 o1 o2 s1 s2
  · obtain ⟨hi, h1⟩ := out h1
    rw [wipe_out hi] at s1
    refine ⟨⟨i, w, h1, o1, s1⟩, fun j u hj h2 o2 s2 => r.sep i j w u a (fun e => hi (by rw [e]; exact hj)) h1 h2 o1 o2 s1 s2⟩
/-- the own names come back -/
theorem REnv.rst {Z H Z' H' : Hp} {σ : St} {env e : Env'} {vs : List Nat} {P : Addr → Prop} (r : REnv T Z H σ env) (r' : REnv T Z' H' (wipe σ vs) (wipE e vs)) (a : Adv (Owns (wipe σ vs) (wipE env vs)) Z H (fun x => Owns (wipe σ vs) (wipE e vs) x ∨ P x) Z' H') (hp : ∀ x, P x → H x = none) :
    Adv (Owns σ env) Z H (fun x => Owns σ (rstE env (wipE e vs) vs) x ∨ P x) Z' H' ∧ REnv T Z' H' σ (rstE env (wipE e vs) vs) ∧ ∀ x, Owns σ (rstE env (wipE e vs) vs) x → Owns (wipe σ vs) (wipE e vs) x ∨ Owns σ env x := by
  have w0 := (r.wip vs).2
  have cas : ∀ {j : Nat} {w : W}, (rstE env (wipE e vs) vs)[j]? = some (some w) → (j ∈ vs ∧ env[j]? = some (some w)) ∨ (j ∉ vs ∧ (wipE e vs)[j]? = some (some w) ∧ (wipe σ vs)[j]? = σ[j]?) := fun {j w} h => by
    by_cases hj : j ∈ vs
    · exact .inl ⟨hj, rstE_in hj h⟩
    · exact .inr ⟨hj, by rw [← rstE_out (env := env) hj]; exact h, wipe_out hj⟩
  have sub : ∀ x, Owns σ (rstE env (wipE e vs) vs) x → Owns (wipe σ vs) (wipE e vs) x ∨ Owns σ env x := fun x ⟨j, w, h1, o1, s1⟩ => by
    rcases cas h1 with ⟨_, q⟩ | ⟨_, q1, q2⟩
    · exact .inr ⟨j, w, q, o1, s1⟩
    · exact .inl ⟨j, w, q1, o1, by rw [q2]; exact s1⟩
  have hidden : ∀ {j : Nat} {w : W} {p : Addr}, j ∈ vs → env[j]? = some (some w) → w.own = true → σ[j]? = some (some (V.ref p)) → ¬ Owns (wipe σ vs) (wipE env vs) p := fun hj h o s z => (w0 _ z).2 _ _ hj h o s
  have later : ∀ {j : Nat} {w : W} {p : Addr}, j ∈ vs → env[j]? = some (some w) → w.own = true → σ[j]? = some (some (V.ref p)) → ¬ Owns (wipe σ vs) (wipE e vs) p := fun {j w p} hj h o s z => by
    rcases a.ow p (.inl z) with q | q
    · exact hidden hj h o s q
    · obtain ⟨_, ob, eo⟩ := r.ownZ ⟨j, w, h, o, s⟩
      rw [q] at eo; cases eo
  refine ⟨((a.more fun x z => (w0 x z).1).wid (P := Owns σ env) fun x z => z).weak fun x z => ?_, ⟨r'.ex, by rw [rstE_len, wipE_len]; have := r'.len; rw [wipE_len, wipe_length] at this; exact this, fun j w h => ?_, fun i j w u p ne h1 h2 o1 o2 s1 s2 => ?_⟩, sub⟩
  · rcases z with z | z
    · rcases sub x z with q | q
      · exact .inl (.inl q)
      · exact .inr q
    · exact .inl (.inr z)
  · rcases cas h with ⟨hj, q⟩ | ⟨_, q1, q2⟩
    · obtain ⟨v, hv, hw⟩ := r.at_ j w q
      exact ⟨v, hv, hw.adv a fun ow p ep => hidden hj q ow (by rw [hv, ep])⟩
    · obtain ⟨v, hv, hw⟩ := r'.at_ j w q1
      exact ⟨v, by rw [← q2]; exact hv, hw⟩
  · rcases cas h1 with ⟨hi, q⟩ | ⟨hi, q1, q2⟩
    · rcases cas h2 with ⟨hj, q'⟩ | ⟨hj, q1', q2'⟩
      · exact r.sep i j w u p ne q q' o1 o2 s1 s2
      · exact later hi q o1 s1 ⟨j, u, q1', o2, by rw [q2']; exact s2⟩
    · rcases cas h2 with ⟨hj, q'⟩ | ⟨hj, q1', q2'⟩
      · exact later hj q' o2 s2 ⟨i, w, q1, o1, by rw [q2]; exact s1⟩
      · exact r'.sep i j w u p ne q1 q1' o1 o2 (by rw [q2]; exact s1) (by rw [q2']; exact s2)
def pre (acc : List D) : R (List D) → R (List D)
  | .ok ys e => .ok (acc ++ ys) e
  | .exc c ns ds e => .exc c ns ds e
  | .bad => .bad
theorem lc_core' {J : It} {items : List D} {Lk Z H : Hp} {σ : St} {env : Env'} {own : List Nat} {Q : VK} (hg : ∀ (Z H : Hp) (σ : St) (env : Env') (v : V) (d : D) (env' : Env') (Q : St → Hp → Prop), REnv T Z H σ env → Sh T Z d v → stT t d env = some env' →
      (∀ σ' : St, (∀ i : Nat, i ∉ own → σ'[i]? = σ[i]?) → REnv T Z H σ' env' → (∀ a, Owns σ' env' a → Owns σ env a) → Q σ' H) → g v σ H Q)
    (ht : ∀ σ H Q, TF T W0 KB b σ H Q → tt σ H Q) (he : ∀ σ H Q, TF T W0 KD f σ H Q → te σ H Q) (gi : GI T Z Lk J items) (r : REnv T Z H σ env) (lk : Ex Lk H) (ln : ∀ p o, Lk p = some o → ¬ Owns σ env p)
    (p : ∀ xs e, lcGo own t b f items env = .ok xs e → ∀ Z' H' D, Adv (Owns σ env) Z H (fun x => Owns σ (rstE env (wipE e own) own) x ∨ x = D) Z' H' → REnv T Z' H' σ (rstE env (wipE e own) own) → Rw T Z' H' (.ml xs) (.ref D) → ¬ Owns σ (rstE env (wipE e own) own) D → Q (.ref D) H')
    (pb : ∃ xs e, lcGo own t b f items env = .ok xs e) (D : Addr) (hD : H D = none) :
    ∃ W : Nat → Nat → Hp → Prop, (∃ m, W 0 m (upd H D (.lst []))) ∧ ∀ i m H, W i m H →
      (J.stop i H ∧ Q (.ref D) H) ∨ (J.go i H ∧ ∃ Nx : Hp → Prop, (∀ H', Nx H' → ∃ m', m' < m ∧ W (i + 1) m' H') ∧ ∀ x H', J.yld i H x H' → g x (wipe σ own) H' fun σ2 H2 => wipe σ2 own = wipe σ own ∧ tt σ2 H2 fun b H3 =>
        if b = true then te σ2 H3 fun y H4 => ∃ acc, H4 D = some (.lst acc) ∧ acc.length < sizeLine ∧ Nx (upd H4 D (.lst (acc ++ [y]))) else Nx H3) := by
  obtain ⟨hl, G, Y, wk, hG, hY⟩ := gi
  obtain ⟨xs0, e0, run0⟩ := pb
  have zD : Z D = none := Evl.fresh_back r.ex hD
  -- the list in the making is none of the slots'
  let Pv : Nat → Hp → Prop := fun i H' => ∃ Z' env' acc accV, REnv T Z' H' (wipe σ own) (wipE env' own) ∧ Ex Z Z' ∧ Ex Lk H' ∧ (∀ p o, Lk p = some o → ¬ Owns (wipe σ own) (wipE env' own) p) ∧
    Adv (Owns (wipe σ own) (wipE env own)) Z H (fun x => Owns (wipe σ own) (wipE env' own) x ∨ x = D) Z' H' ∧ H' D = some (.lst accV) ∧ Z' D = none ∧ ShL T Z' acc accV ∧ acc.length ≤ i ∧ ¬ Owns (wipe σ own) (wipE env' own) D ∧
    pre acc (lcGo own t b f (items.drop i) env') = .ok xs0 e0
  have w0 := r.wip own
  have nD0 : ¬ Owns (wipe σ own) (wipE env own) D := Owns.fresh w0.1 hD
  have LD : Lk D = none := by
    cases q : Lk D with
    | none => rfl
    | some o => rw [lk D o q] at hD; cases hD
  have h0 : Pv 0 (upd H D (.lst [])) := by
    refine ⟨Z, env, [], [], w0.1.newO hD, Evl.Ex.refl Z, fun q o h => ?_, fun q o h z => ln q o h ((w0.2 q z).1), Adv.newO r.ex hD, upd_same, zD, rfl, Nat.zero_le _, nD0, ?_⟩
    · rw [upd_ne (fun e => by rw [e, LD] at h; cases h)]; exact lk q o h
    · rw [List.drop_zero, run0]; rfl
  refine lc_it wk Pv h0 (fun i H' _ ⟨Z', env', acc, accV, r', z', l', _⟩ => hG H' (z'.trans r'.ex) l') ?_ ?_
  · rintro i x H1 H2 hi ⟨Z1, env1, acc, accV, r1, z1, l1, n1, a1, hD1, zD1, sA, lA, nD1, run1⟩ y
    obtain ⟨d, e1, hd⟩ := hY i H1 x H2 hi (z1.trans r1.ex) l1 y
    have ed : items.drop i = d :: items.drop (i + 1) := by
      rw [List.drop_eq_getElem_cons hi]
      congr 1
      rw [List.getElem?_eq_getElem hi] at e1
      exact Option.some.inj e1
    rw [ed] at run1
    have key : ∀ {Z2 : Hp}, REnv T Z2 H2 (wipe σ own) (wipE env1 own) → Ex Z1 Z2 → Adv (Owns (wipe σ own) (wipE env1 own)) Z1 H1 (Owns (wipe σ own) (wipE env1 own)) Z2 H2 → Sh T Z2 d x → g x (wipe σ own) H2 fun σ2 H3 => wipe σ2 own = wipe σ own ∧ tt σ2 H3 fun b H4 =>
        if b = true then te σ2 H4 fun y H5 => ∃ acc, H5 D = some (.lst acc) ∧ acc.length < sizeLine ∧ Pv (i + 1) (upd H5 D (.lst (acc ++ [y]))) else Pv (i + 1) H4 := by
      intro Z2 r2 z2 a2 s2
      simp only [lcGo] at run1
      cases es : stT t d (wipE env1 own) with
      | none => rw [es] at run1; cases run1
      | some env2 =>
        rw [es] at run1
        simp only at run1
        refine hg Z2 H2 (wipe σ own) (wipE env1 own) x d env2 _ r2 s2 es fun σ2 q2 r3 o3 => ?_
        have len2 : σ2.length = σ.length := by
          have h1 := r3.len
          have h2 := r2.len
          have h3 : env2.length = (wipE env1 own).length := by
            exact stT_len _ _ _ _ es
          rw [wipE_len, wipe_length] at h2
          rw [wipE_len] at h3
          omega
        refine ⟨wipe_eq len2 (vs := own) (fun _ h => h) q2, ht _ _ _ ⟨Z2, env2, r3, ?_⟩⟩
        obtain ⟨l2, n2⟩ := lock_later a2 l1 n1
        have a3 : Adv (Owns (wipe σ own) (wipE env1 own)) Z2 H2 (Owns σ2 env2) Z2 H2 := (Adv.refl (O := Owns (wipe σ own) (wipE env1 own)) r2.ex).weak o3
        obtain ⟨l3, n3⟩ := lock_later a3 l2 n2
        -- the list in the making as a locked thing
        have dA : ∀ {O O' : Addr → Prop} {Z H Z' H' : Hp} {o : HO}, Adv O Z H O' Z' H' → H D = some o → ¬ O D → Z D = none → H' D = some o ∧ ¬ O' D ∧ Z' D = none := fun {O O' Z H Z' H' o} a h n z => by
          refine ⟨a.fr D o h n, fun q => ?_, ?_⟩
          · rcases a.ow D q with q | q
            · exact n q
            · rw [h] at q; cases q
          · cases q : Z' D with
            | none => rfl
            | some u =>
              rcases a.nz D u q with g | g | g
              · rw [z] at g; cases g
              · exact absurd g n
              · rw [h] at g; cases g
        have ad : Adv (Owns (wipe σ own) (wipE env own)) Z H (fun x => Owns σ2 env2 x ∨ x = D) Z2 H2 := by
          obtain ⟨d1, d2, d3⟩ := dA a2 hD1 nD1 zD1
          refine ⟨a1.zz.trans a2.zz, a2.zh, fun q o h hn => a2.fr q o (a1.fr q o h hn) fun z => ?_, fun q h => ?_, fun q o h => ?_⟩
          · rcases a1.ow q (.inl z) with g | g
            · exact hn g
            · rw [h] at g; cases g
          · rcases h with h | h
            · exact a1.ow q (.inl (o3 q h))
            · exact a1.ow q (.inr h)
          · rcases a2.nz q o h with g | g | g
            · exact a1.nz q o g
            · exact .inr (a1.ow q (.inl g))
            · right
              cases e : H q with
              | none => exact .inr rfl
              | some u =>
                by_cases hq : Owns (wipe σ own) (wipE env own) q
                · exact .inl hq
                · rw [a1.fr q u e hq] at g; cases g
        obtain ⟨dd1, dd2, dd3⟩ := dA (a2.trans a3) hD1 nD1 zD1
        have step : ∀ {Z5 H5 : Hp} {env5 : Env'} {acc' : List Wc.D} {accV' : List V} {H6 : Hp}, REnv T Z5 H5 σ2 env5 → Adv (Owns σ2 env2) Z2 H2 (Owns σ2 env5) Z5 H5 → H6 = upd H5 D (.lst accV') → ShL T Z5 acc' accV' → acc'.length ≤ i + 1 → pre acc' (lcGo own t b f (items.drop (i + 1)) env5) = .ok xs0 e0 → Pv (i + 1) H6 := by
          intro Z5 H5 env5 acc' accV' H6 r5 a5 e6 sA' lA' run5
          subst e6
          obtain ⟨d1, d2, d3⟩ := dA a5 dd1 dd2 dd3
          have wq := r5.wip own
          rw [wipe_eq len2 (vs := own) (fun _ h => h) q2] at wq
          have nD5 : ¬ Owns (wipe σ own) (wipE env5 own) D := fun z => d2 ((wq.2 D z).1)
          obtain ⟨l5, n5⟩ := lock_later a5 l3 n3
          have rW : REnv T Z5 (upd H5 D (.lst accV')) (wipe σ own) (wipE env5 own) := wq.1.step (O := fun x => x = D) (O' := fun x => x = D) (Adv.write wq.1.ex rfl d3) fun p hp e => nD5 (by rw [← e]; exact hp)
          refine ⟨Z5, env5, acc', accV', rW, ((z1.trans z2).trans a5.zz), fun q o h => ?_, fun q o h z => n5 q o h ((wq.2 q z).1), ?_, upd_same, d3, sA', lA', nD5, run5⟩
          · rw [upd_ne (fun e => by rw [e, LD] at h; cases h)]; exact l5 q o h
          · refine ⟨ad.zz.trans a5.zz, rW.ex, fun q o h hn => ?_, fun q h => ?_, fun q o h => ?_⟩
            · have e1 : q ≠ D := fun e => by rw [e, hD] at h; cases h
              rw [upd_ne e1]
              refine a5.fr q o (ad.fr q o h hn) fun z => ?_
              rcases ad.ow q (.inl z) with g | g
              · exact hn g
              · rw [h] at g; cases g
            · rcases h with h | h
              · rcases a5.ow q ((wq.2 q h).1) with g | g
                · exact ad.ow q (.inl g)
                · cases e : H q with
                  | none => exact .inr rfl
                  | some u =>
                    by_cases hq : Owns (wipe σ own) (wipE env own) q
                    · exact .inl hq
                    · rw [ad.fr q u e hq] at g; cases g
              · exact ad.ow q (.inr h)
            · rcases a5.nz q o h with g | g | g
              · exact ad.nz q o g
              · exact .inr (ad.ow q (.inl g))
              · right
                cases e : H q with
                | none => exact .inr rfl
                | some u =>
                  by_cases hq : Owns (wipe σ own) (wipE env own) q
                  · exact .inl hq
                  · rw [ad.fr q u e hq] at g; cases g
        cases eb : b env2 with
        | ok c env3 =>
          rw [eb] at run1
          intro Z4 H4 c' a4 r4 ec _
          have ec : c' = c := ec
          subst ec
          have a4' : Adv (Owns σ2 env2) Z2 H2 (Owns σ2 env3) Z4 H4 := a4.weak fun _ z => .inl z
          clear a4
          cases c' with
          | false =>
            show Pv (i + 1) H4
            obtain ⟨d1, d2, d3⟩ := dA a4' dd1 dd2 dd3
            refine step r4 a4' (accV' := accV) (acc' := acc) ?_ (ShL.mono ((z2).trans a4'.zz) _ _ sA) (by omega) run1
            funext q
            by_cases e : q = D
            · subst e; rw [upd_same]; exact d1
            · rw [upd_ne e]
          | true =>
            refine he _ _ _ ⟨Z4, env3, r4, ?_⟩
            simp only at run1
            cases ef : f env3 with
            | ok y env4 =>
              rw [ef] at run1
              simp only at run1
              intro Z5 H5 v a5 r5 sy _
              have a5 : Adv (Owns σ2 env3) Z4 H4 (Owns σ2 env4) Z5 H5 := a5.weak fun _ z => .inl z
              obtain ⟨d1, d2, d3⟩ := dA (a4'.trans a5) dd1 dd2 dd3
              refine ⟨accV, d1, ?_, ?_⟩
              · rw [sA.length]
                omega
              · refine step r5 (a4'.trans a5) (acc' := acc ++ [y]) rfl ((ShL.mono ((z2.trans a4'.zz).trans a5.zz) _ _ sA).append (ShL.one sy)) (by rw [List.length_append, List.length_singleton]; omega) ?_
                cases eg : lcGo own t b f (items.drop (i + 1)) env4 with
                | ok ys e4 =>
                  rw [eg] at run1
                  simp only [pre] at run1 ⊢
                  rw [List.append_assoc]
                  exact run1
                | exc _ _ _ _ => rw [eg] at run1; simp only [pre] at run1; cases run1
                | bad => rw [eg] at run1; simp only [pre] at run1; cases run1
            | exc _ _ _ _ => rw [ef] at run1; simp only [pre] at run1; cases run1
            | bad => rw [ef] at run1; simp only [pre] at run1; cases run1
        | exc _ _ _ _ => rw [eb] at run1; simp only [pre] at run1; cases run1
        | bad => rw [eb] at run1; simp only [pre] at run1; cases run1
    rcases hd with ⟨rfl, s⟩ | ⟨q, vs, ds, rfl, hq, rfl, rfl, hl2, s⟩
    · exact key r1 (Evl.Ex.refl Z1) (Adv.refl r1.ex) (Sh.mono z1 d x s)
    · have zq : Z1 q = none := Evl.fresh_back r1.ex hq
      exact key (r1.new hq) (Evl.Ex.new zq) (Adv.new r1.ex hq) ⟨q, vs, rfl, upd_same, hl2, ShL.mono (z1.trans (Evl.Ex.new zq)) ds vs s⟩
  · rintro H1 ⟨Z1, env1, acc, accV, r1, z1, l1, n1, a1, hD1, zD1, sA, lA, nD1, run1⟩
    rw [List.drop_length] at run1
    simp only [lcGo, pre, List.append_nil] at run1
    cases run1
    obtain ⟨b1, b2, b3⟩ := REnv.rst (P := fun x => x = D) r r1 a1 fun x e => by rw [e]; exact hD
    refine p _ _ run0 Z1 H1 D b1 b2 ⟨D, accV, rfl, zD1, hD1, by omega, sA⟩ fun z => ?_
    rcases b3 D z with q | q
    · exact nD1 q
    · exact Owns.fresh r hD q
theorem asgTF {as : List Nat} {i : Nat} {F : M W} {De : Ends} {σ : St} {H : Hp} (hi : i ∈ as) (q : TSF T Wx as (asgM i F) De σ H) : TF T Wx KW F σ H fun x H1 => De.nx (σ.set i (some x)) H1 := asgTS hi q
theorem lcM_post {items : List D} {Z H : Hp} {σ : St} {env : Env'} {own : List Nat} {O : Addr → Prop} {Q : VK} (hO : ∀ a, Owns σ env a → O a) (p : Post T Wx KW σ O Z H (lcM own t b f items env) Q) :
    (∀ xs e, lcGo own t b f items env = .ok xs e → ∀ Z' H' D, Adv (Owns σ env) Z H (fun x => Owns σ (rstE env (wipE e own) own) x ∨ x = D) Z' H' → REnv T Z' H' σ (rstE env (wipE e own) own) → Rw T Z' H' (.ml xs) (.ref D) → ¬ Owns σ (rstE env (wipE e own) own) D → Q (.ref D) H') ∧
    ∃ xs e, lcGo own t b f items env = .ok xs e := by
  unfold lcM at p
  cases e : lcGo own t b f items env with
  | ok xs e1 =>
    rw [e] at p
    refine ⟨fun xs' e' h Z' H' D a r k n => ?_, xs, e1, rfl⟩
    cases h
    refine p Z' H' (.ref D) ((a.more hO).weak fun x hx => hx.imp id fun z => by have := z.2; cases this; rfl) r k fun x z => ?_
    have := z.2
    cases this
    exact n
  | exc _ _ _ _ => rw [e] at p; exact p.elim
  | bad => rw [e] at p; exact p.elim
variable {elt iter : Expr} {ifs : List Expr} {scope : Scope} {own : List (Str × Nat)} {pos : Pos} {it : M (List D)}
theorem lcTE {σ : St} {H : Hp} {Q : VK} (hg : ∀ (s : Shared) (H : Hp) (C : Addr) (cl : List (Str × Addr)) (fp : List Addr), GT (X.blk s H scope (compEnvC scope cl C X.env) fp) T (own.map (·.2)) tg t g) (s0 : Shared) (q : TF T Wx KW (it >>= lcM (own.map (·.2)) t b f) σ H Q) :
    tLc (TF T Wx (KI none') it) g (TF T W0 KB b) (TF T W0 KD f) (own.map (·.2)) σ H Q :=
  TF.bind q fun Z1 H1 J items env1 r1 gi _ p D hD => by
    obtain ⟨p1, p2⟩ := lcM_post (fun _ h => .inl h) p
    exact lc_core' (hg s0 H 0 [] []).2 (fun _ _ _ z => z) (fun _ _ _ z => z) gi r1 ex_none (fun _ _ h => by cases h) p1 p2 D hD
theorem pd_lc (hc : X.calm = true) (hN : X.N.Nodup) (hi : PI X tg iter (TF T Wx (KI none') it)) (ok : BlkOk X.N X.env.scope scope own)
    (hg : ∀ (s : Shared) (H : Hp) (C : Addr) (cl : List (Str × Addr)) (fp : List Addr), GT (X.blk s H scope (compEnvC scope cl C X.env) fp) T (own.map (·.2)) tg t g)
    (ht : ∀ (s : Shared) (H : Hp) (C : Addr) (cl : List (Str × Addr)) (fp : List Addr), PTs (X.blk s H scope (compEnvC scope cl C X.env) fp) ifs (TF T W0 KB b))
    (he : ∀ (s : Shared) (H : Hp) (C : Addr) (cl : List (Str × Addr)) (fp : List Addr), PE (X.blk s H scope (compEnvC scope cl C X.env) fp) elt (TF T W0 KD f)) (hs : ∀ x, foldedSetIterable iter X.env x = pure x := by intro _; rfl) :
    PE X (.ListComp elt [⟨tg, iter, ifs, 0⟩] scope pos) (TF T Wx KW (it >>= lcM (own.map (·.2)) t b f)) :=
  peImp (pe_lc hc hN hi ok (fun s H C cl fp => (hg s H C cl fp).1) ht he hs) fun σ H Q q => lcTE hg X.s_0 q
/-- name = [..] -/
theorem sd_setLc {as : List Nat} {i : Nat} {y : Str} {py spos : Pos} (hc : X.calm = true) (hN : X.N.Nodup) (hy : X.N[i]? = some y) (ha : i ∈ as) (hyl : X.env.scope.names.lookup y = some .local) (hsw : swapsWith (.ListComp elt [⟨tg, iter, ifs, 0⟩] scope pos) (some (.Name y py)) spos.line X.env = pure true)
    (hi : PI X tg iter (TF T Wx (KI none') it)) (ok : BlkOk X.N X.env.scope scope own)
    (hg : ∀ (s : Shared) (H : Hp) (C : Addr) (cl : List (Str × Addr)) (fp : List Addr), GT (X.blk s H scope (compEnvC scope cl C X.env) fp) T (own.map (·.2)) tg t g)
    (ht : ∀ (s : Shared) (H : Hp) (C : Addr) (cl : List (Str × Addr)) (fp : List Addr), PTs (X.blk s H scope (compEnvC scope cl C X.env) fp) ifs (TF T W0 KB b))
    (he : ∀ (s : Shared) (H : Hp) (C : Addr) (cl : List (Str × Addr)) (fp : List Addr), PE (X.blk s H scope (compEnvC scope cl C X.env) fp) elt (TF T W0 KD f)) (hs : ∀ x, foldedSetIterable iter X.env x = pure x := by intro _; rfl) :
    PS X (.Assign [.Name y py] (.ListComp elt [⟨tg, iter, ifs, 0⟩] scope pos) spos) (TSF T Wx as (asgM i (it >>= lcM (own.map (·.2)) t b f))) :=
  psImp (ps_setLc hc hN hy hyl hsw hi ok (fun s H C cl fp => (hg s H C cl fp).1) ht he hs) fun De σ H q =>
    lcTE (Q := fun x H1 => De.nx (σ.set i (some x)) H1) hg X.s_0 (asgTF ha q)
end
end Wc
namespace Wc
open PySem L2
section
variable {X : Cx} {T : Cl} {Wx : WX} {α : Type} {κ : Kind α V} {inj : W → α} {a b c e o : Expr} {es : List Expr} {f g h : M D} {p pos apos : Pos} {i : Nat} {x : Str} {bid ty : String}
theorem pd_b1 {r : List V → Hp → VK → Prop} {op : D → Option W} (F : Fin κ inj) (hc : CallR X (.builtin bid) r) (S : S1 T (fun v H Q => r [v] H Q) op) (hg : Gl X x) (hm : X.mg x = none) (hv : bootBuiltins x = some (.builtin bid)) (ha : PE X e (TF T Wx KV f))
    (hs : starEach [e] X.env = (false, eval e X.env) :: starEach [] X.env := by rfl) (hn : x ≠ "__name__" := by decide) (hdb : (x == ("__debug__" : Str)) = false := by decide) : PE X (.Call (.Name x p) [e] [] pos) (TF T Wx κ (m1 inj op f)) :=
  peImp (pe_callB hc hg hm hv (pa_cons ha pa_nil hs) hn hdb hs) fun _ _ _ q => tf1 F S q
theorem pd_t1 {r : List V → Hp → VK → Prop} {op : D → Option W} (F : Fin κ inj) (hc : CallR X (.type ty) r) (S : S1 T (fun v H Q => r [v] H Q) op) (hg : Gl X x) (hm : X.mg x = none) (hv : bootBuiltins x = some (.type ty)) (ha : PE X e (TF T Wx KV f))
    (hs : starEach [e] X.env = (false, eval e X.env) :: starEach [] X.env := by rfl) (hn : x ≠ "__name__" := by decide) (hdb : (x == ("__debug__" : Str)) = false := by decide) : PE X (.Call (.Name x p) [e] [] pos) (TF T Wx κ (m1 inj op f)) :=
  peImp (pe_callTy hc hg hm hv (pa_cons ha pa_nil hs) hn hdb hs) fun _ _ _ q => tf1 F S q
theorem pd_b2 {r : List V → Hp → VK → Prop} {op : D → D → Option W} (F : Fin κ inj) (hc : CallR X (.builtin bid) r) (S : S2 T (fun v u H Q => r [v, u] H Q) op) (hg : Gl X x) (hm : X.mg x = none) (hv : bootBuiltins x = some (.builtin bid)) (ha : PE X a (TF T Wx KD f)) (hb : PE X b (TF T Wx KV g))
    (hs : starEach [a, b] X.env = (false, eval a X.env) :: starEach [b] X.env := by rfl) (hs2 : starEach [b] X.env = (false, eval b X.env) :: starEach [] X.env := by rfl) (hn : x ≠ "__name__" := by decide) (hdb : (x == ("__debug__" : Str)) = false := by decide) (hpl : (backTo pos (starEach [b] X.env)).any (·.1) = false := by rfl) : PE X (.Call (.Name x p) [a, b] [] pos) (TF T Wx κ (m2 inj op f g)) :=
  peImp (pe_callB hc hg hm hv (pa_cons ha (pa_cons hb pa_nil hs2) hs) hn hdb hs hpl) fun _ _ _ q => tf2 F S q
def lenD : D → Option W
  | .str s => some (.sh (.int (s.length : Nat)))
  | .lst xs => some (.sh (.int (xs.length : Nat)))
  | .tup xs => some (.sh (.int (xs.length : Nat)))
  | _ => none
theorem sLen : S1 T (fun v H Q => ∃ x n, [v] = [x] ∧ LenV X.K x H n ∧ Q (.int n) H) lenD := by
  intro Z H σ env v d w Q r hd ho n
  cases d <;> simp only [lenD] at ho <;> cases ho
  · obtain ⟨rfl, hl⟩ := hd
    exact ⟨_, _, rfl, ⟨by rw [str_len]; exact hl, rfl⟩, n.sc r (by rw [str_len]; rfl)⟩
  · obtain ⟨q, vs, rfl, h1, hl, s⟩ := hd
    exact ⟨_, _, rfl, .inr ⟨vs, SqT.of (r.ex _ _ h1), rfl⟩, n.sc r (by rw [s.length]; rfl)⟩
  · obtain ⟨q, vs, rfl, h1, hl, s⟩ := hd
    exact ⟨_, _, rfl, .inl ⟨vs, SqL.of h1, rfl⟩, n.sc r (by rw [s.length]; rfl)⟩
def asBs : List D → Option (List Bool)
  | [] => some []
  | .bl b :: r => (asBs r).map (b :: ·)
  | _ => none
def asIs : List D → Option (List Int)
  | [] => some []
  | .int i :: r => (asIs r).map (i :: ·)
  | _ => none
def asSs : List D → Option (List (List Nat))
  | [] => some []
  | .str s :: r => (asSs r).map (s :: ·)
  | _ => none
theorem asBs_ok {Z : Hp} : ∀ {ds : List D} {vs : List V} {bs : List Bool}, ShL T Z ds vs → asBs ds = some bs → vs = bs.map V.bl
  | [], _, bs, h, e => by simp [asBs] at e; subst e; exact h
  | .bl b :: r, _, bs, ⟨v, q, e1, e2, e3⟩, e => by
    simp only [asBs] at e
    cases e4 : asBs r with
    | none => rw [e4] at e; cases e
    | some cs =>
      rw [e4] at e
      have e : b :: cs = bs := by simpa using e
      subst e
      rw [e1, asBs_ok e3 e4, show v = V.bl b from e2]
      rfl
  | .non :: r, _, bs, _, e => by simp [asBs] at e
  | .int _ :: r, _, bs, _, e => by simp [asBs] at e
  | .str _ :: r, _, bs, _, e => by simp [asBs] at e
  | .tup _ :: r, _, bs, _, e => by simp [asBs] at e
  | .lst _ :: r, _, bs, _, e => by simp [asBs] at e
  | .dic _ _ :: r, _, bs, _, e => by simp [asBs] at e
  | .obj _ _ _ :: r, _, bs, _, e => by simp [asBs] at e
  | .scr _ :: r, _, bs, _, e => by simp [asBs] at e
  | .exn _ _ _ :: r, _, bs, _, e => by simp [asBs] at e
  | .fnv _ :: r, _, bs, _, e => by simp [asBs] at e
theorem asIs_ok {Z : Hp} : ∀ {ds : List D} {vs : List V} {bs : List Int}, ShL T Z ds vs → asIs ds = some bs → vs = bs.map V.int
  | [], _, bs, h, e => by simp [asIs] at e; subst e; exact h
  | .int b :: r, _, bs, ⟨v, q, e1, e2, e3⟩, e => by
    simp only [asIs] at e
    cases e4 : asIs r with
    | none => rw [e4] at e; cases e
    | some cs =>
      rw [e4] at e
      have e : b :: cs = bs := by simpa using e
      subst e
      rw [e1, asIs_ok e3 e4, show v = V.int b from e2]
      rfl
  | .non :: r, _, bs, _, e => by simp [asIs] at e
  | .bl _ :: r, _, bs, _, e => by simp [asIs] at e
  | .str _ :: r, _, bs, _, e => by simp [asIs] at e
  | .tup _ :: r, _, bs, _, e => by simp [asIs] at e
  | .lst _ :: r, _, bs, _, e => by simp [asIs] at e
  | .dic _ _ :: r, _, bs, _, e => by simp [asIs] at e
  | .obj _ _ _ :: r, _, bs, _, e => by simp [asIs] at e
  | .scr _ :: r, _, bs, _, e => by simp [asIs] at e
  | .exn _ _ _ :: r, _, bs, _, e => by simp [asIs] at e
  | .fnv _ :: r, _, bs, _, e => by simp [asIs] at e
theorem asSs_ok {Z : Hp} : ∀ {ds : List D} {vs : List V} {bs : List (List Nat)}, ShL T Z ds vs → asSs ds = some bs → vs = (bs.map fun s => (⟨s.toArray⟩ : Str)).map V.str
  | [], _, bs, h, e => by simp [asSs] at e; subst e; exact h
  | .str b :: r, _, bs, ⟨v, q, e1, e2, e3⟩, e => by
    simp only [asSs] at e
    cases e4 : asSs r with
    | none => rw [e4] at e; cases e
    | some cs =>
      rw [e4] at e
      have e : b :: cs = bs := by simpa using e
      subst e
      rw [e1, asSs_ok e3 e4, show v = V.str ⟨b.toArray⟩ from e2.1]
      rfl
  | .non :: r, _, bs, _, e => by simp [asSs] at e
  | .bl _ :: r, _, bs, _, e => by simp [asSs] at e
  | .int _ :: r, _, bs, _, e => by simp [asSs] at e
  | .tup _ :: r, _, bs, _, e => by simp [asSs] at e
  | .lst _ :: r, _, bs, _, e => by simp [asSs] at e
  | .dic _ _ :: r, _, bs, _, e => by simp [asSs] at e
  | .obj _ _ _ :: r, _, bs, _, e => by simp [asSs] at e
  | .scr _ :: r, _, bs, _, e => by simp [asSs] at e
  | .exn _ _ _ :: r, _, bs, _, e => by simp [asSs] at e
  | .fnv _ :: r, _, bs, _, e => by simp [asSs] at e
def allD : D → Option W
  | .lst xs => (asBs xs).map fun bs => .sh (.bl (bs.all id))
  | _ => none
theorem sAll : S1 T (fun v H Q => rAll X.K [v] H Q) allD := by
  intro Z H σ env v d w Q r hd ho n
  cases d <;> simp only [allD] at ho <;> try (cases ho; done)
  rename_i xs
  cases q : asBs xs with
  | none => rw [q] at ho; cases ho
  | some bs =>
    rw [q] at ho; cases ho
    obtain ⟨a, vs, rfl, h1, hl, s⟩ := hd
    have := asBs_ok s q
    subst this
    exact ⟨a, bs, rfl, SqL.of h1, n.sc r rfl⟩
def sumD : D → Option W
  | .lst xs => (asIs xs).map fun bs => .sh (.int bs.sum)
  | _ => none
theorem sSum : S1 T (fun v H Q => rSum X.K [v] H Q) sumD := by
  intro Z H σ env v d w Q r hd ho n
  cases d <;> simp only [sumD] at ho <;> try (cases ho; done)
  rename_i xs
  cases q : asIs xs with
  | none => rw [q] at ho; cases ho
  | some bs =>
    rw [q] at ho; cases ho
    obtain ⟨a, vs, rfl, h1, hl, s⟩ := hd
    have := asIs_ok s q
    subst this
    exact ⟨a, bs, rfl, SqL.of h1, n.sc r rfl⟩
def listD : D → Option W
  | .lst xs => some (.ml xs)
  | .tup xs => some (.ml xs)
  | _ => none
theorem sList : S1 T (fun v H Q => ∃ p ys, [v] = [.ref p] ∧ (SqL X.K H p ys ∨ SqT X.K H p ys) ∧ ∀ l, H l = none → Q (.ref l) (upd H l (.lst ys))) listD := by
  intro Z H σ env v d w Q r hd ho n
  cases d <;> simp only [listD] at ho <;> cases ho
  · obtain ⟨a, vs, rfl, h1, hl, s⟩ := hd
    exact ⟨a, vs, rfl, .inr (SqT.of (r.ex _ _ h1)), fun l hl' => n.ml r s hl hl'⟩
  · obtain ⟨a, vs, rfl, h1, hl, s⟩ := hd
    exact ⟨a, vs, rfl, .inl (SqL.of h1), fun l hl' => n.ml r s hl hl'⟩
def absD : D → Option W
  | .int i => some (.sh (.int (if i < 0 then -i else i)))
  | _ => none
theorem sAbs : S1 T (fun v H Q => ∃ i, [v] = [.int i] ∧ Q (.int (if i < 0 then -i else i)) H) absD := by
  intro Z H σ env v d w Q r hd ho n
  cases d <;> simp only [absD] at ho <;> cases ho
  obtain rfl := hd
  exact ⟨_, rfl, n.sc r rfl⟩
def intD : D → Option W
  | .int i => some (.sh (.int i))
  | .bl k => some (.sh (.int (if k then 1 else 0)))
  | _ => none
theorem sInt : S1 T (fun v H Q => (∃ i, [v] = [.int i] ∧ Q (.int i) H) ∨ ∃ k, [v] = [.bl k] ∧ Q (.int (if k then 1 else 0)) H) intD := by
  intro Z H σ env v d w Q r hd ho n
  cases d <;> simp only [intD] at ho <;> cases ho
  · obtain rfl := hd
    exact .inr ⟨_, rfl, n.sc r rfl⟩
  · obtain rfl := hd
    exact .inl ⟨_, rfl, n.sc r rfl⟩
def min2D : D → D → Option W
  | .int i, .int j => some (.sh (.int (if j < i then j else i)))
  | _, _ => none
theorem sMin2 : S2 T (fun v u H Q => ∃ i j, [v, u] = [.int i, .int j] ∧ Q (.int (if j < i then j else i)) H) min2D := by
  intro Z H σ env v u d e w Q r hd he ho n
  cases d <;> cases e <;> simp only [min2D] at ho <;> cases ho
  obtain rfl := hd; obtain rfl := he
  exact ⟨_, _, rfl, n.sc r rfl⟩
def tyN : D → Option String
  | .non => some "NoneType"
  | .bl _ => some "bool"
  | .int _ => some "int"
  | .str _ => some "str"
  | .tup _ => some "tuple"
  | .lst _ => some "list"
  | .dic _ _ => some "dict"
  | _ => none
def isiB (n a : String) : Bool := a == n || (a == "bool" && n == "int")
def isiD (n : String) (d : D) : Option W := (tyN d).map fun a => .sh (.bl (isiB n a))
theorem tyN_ok {Z H : Hp} {d : D} {v : V} {a : String} (ex : Ex Z H) (h : tyN d = some a) (hd : Vw T Z H d v) : TyX X.K H v (.type a) := by
  cases d <;> simp only [tyN] at h <;> cases h
  · obtain rfl := hd; exact .base .non
  · obtain rfl := hd; exact .base (.bl _)
  · obtain rfl := hd; exact .base (.int _)
  · obtain ⟨rfl, _⟩ := hd; exact .base (.str _)
  · obtain ⟨a, vs, rfl, h1, _⟩ := hd; exact .base (.tup (ex _ _ h1))
  · obtain ⟨a, vs, rfl, h1, _⟩ := hd; exact .base (.lst h1)
  · obtain ⟨a, kv, rfl, h1 | ⟨o, h1⟩, _⟩ := hd
    · exact .base (.dK h1)
    · exact .fDict h1
theorem kit_tab : (["NoneType", "bool", "int", "str", "tuple", "list", "dict"].all fun a => ["bool", "int", "str", "tuple", "list", "dict"].all fun n => kitB a n == some (isiB n a)) = true := by decide +kernel
theorem sIsi {n : String} (hn : n ∈ ["bool", "int", "str", "tuple", "list", "dict"]) : S1 T (fun v H Q => rIsi X.K [v, .ty n] H Q) (isiD n) := by
  intro Z H σ env v d w Q r hd ho nw
  unfold isiD at ho
  cases q : tyN d with
  | none => rw [q] at ho; cases ho
  | some a =>
    rw [q] at ho; cases ho
    have ha : a ∈ ["NoneType", "bool", "int", "str", "tuple", "list", "dict"] := by
      cases d <;> simp only [tyN] at q <;> cases q <;> decide
    have k := List.all_eq_true.mp (List.all_eq_true.mp kit_tab a ha) n hn
    have k : kitB a n = some (isiB n a) := by simpa using k
    exact ⟨v, .ty n, .type a, .type n, _, rfl, .ty n, tyN_ok r.ex q hd, kit_ty k, nw.sc r rfl⟩
theorem pd_isi {n : String} {p2 : Pos} {y : Str} (F : Fin κ inj) (hn : n ∈ ["bool", "int", "str", "tuple", "list", "dict"]) (hg : Gl X "isinstance") (hm : X.mg "isinstance" = none) (hg2 : Gl X y) (hm2 : X.mg y = none) (hv2 : bootBuiltins y = some (.type n)) (ha : PE X e (TF T Wx KV f))
    (hs : starEach [e, .Name y p2] X.env = (false, eval e X.env) :: starEach [.Name y p2] X.env := by rfl) (hs2 : starEach [.Name y p2] X.env = (false, eval (.Name y p2) X.env) :: starEach [] X.env := by rfl) (hn2 : y ≠ "__name__" := by decide) (hdb2 : (y == ("__debug__" : Str)) = false := by decide) :
    PE X (.Call (.Name "isinstance" p) [e, .Name y p2] [] pos) (TF T Wx κ (m1 inj (isiD n) f)) :=
  peImp (pe_callB call_isi hg hm (by decide +kernel) (pa_cons ha (pa_cons (pe_bltn (v := .ty n) hg2 hm2 hv2 rfl hn2 hdb2) pa_nil hs2) hs) (by decide) (by decide) hs) fun _ _ _ q => tf1 F (sIsi hn) q
def joinD (sep : List Nat) : D → Option W
  | .lst xs => (asSs xs).bind fun ss => if (ss.map List.length).sum + ss.length * sep.length ≤ lim then some (.sh (.str (TL.joinL sep ss))) else none
  | _ => none
theorem joinL_len (sep : List Nat) : ∀ ss : List (List Nat), (TL.joinL sep ss).length ≤ (ss.map List.length).sum + ss.length * sep.length
  | [] => by simp [TL.joinL]
  | [x] => by simp [TL.joinL]
  | x :: y :: r => by
    have := joinL_len sep (y :: r)
    simp only [TL.joinL, List.length_append, List.map_cons, List.sum_cons, List.length_cons, Nat.succ_mul] at this ⊢
    omega
theorem str_ext {y z : Str} (h : y.cps.toList = z.cps.toList) : y = z := by
  cases y; cases z
  congr 1
  exact Array.toList_inj.mp h
theorem join_str (sep : List Nat) (ss : List (List Nat)) : Str.join ⟨sep.toArray⟩ (ss.map fun s => (⟨s.toArray⟩ : Str)) = ⟨(TL.joinL sep ss).toArray⟩ := by
  apply str_ext
  have h := TL.tl_join ⟨sep.toArray⟩ (ss.map fun s => (⟨s.toArray⟩ : Str))
  have e : (ss.map fun s => (⟨s.toArray⟩ : Str)).map TL.tl = ss := by
    rw [List.map_map]
    exact (List.map_congr_left fun s _ => by show (s.toArray).toList = s; simp).trans (List.map_id ss)
  rw [e] at h
  have e2 : TL.tl ⟨sep.toArray⟩ = sep := by show sep.toArray.toList = sep; simp
  rw [e2] at h
  exact h.trans (by simp)
def rJoin (K : PySem.W.Frag) (sep : List Nat) : V → Hp → VK → Prop := fun y H Q => ∃ a p, ∃ ys : List Str, V.str ⟨sep.toArray⟩ = .str a ∧ [y] = [.ref p] ∧ (SqL K H p (ys.map V.str) ∨ SqT K H p (ys.map V.str)) ∧
    (ys.map (·.length)).sum + ys.length * a.length ≤ 16777216 ∧ Q (.str (Txt.join a ys)) H
theorem sJoin {sep : List Nat} : S1 T (rJoin X.K sep) (joinD sep) := by
  intro Z H σ env v d w Q r hd ho n
  cases d <;> simp only [joinD] at ho <;> try (cases ho; done)
  rename_i xs
  cases q : asSs xs with
  | none => rw [q] at ho; cases ho
  | some ss =>
    rw [q] at ho
    simp only [Option.bind_some] at ho
    split at ho
    · rename_i hl
      cases ho
      obtain ⟨a, vs, rfl, h1, hl1, s⟩ := hd
      have := asSs_ok s q
      subst this
      have e1 : ((ss.map fun s => (⟨s.toArray⟩ : Str)).map (·.length)) = ss.map List.length := by
        rw [List.map_map]
        exact List.map_congr_left fun s _ => str_len s
      refine ⟨_, a, ss.map fun s => (⟨s.toArray⟩ : Str), rfl, rfl, .inl (SqL.of h1), ?_, ?_⟩
      · rw [e1, List.length_map, str_len]; exact hl
      · have e2 : Txt.join ⟨sep.toArray⟩ (ss.map fun s => (⟨s.toArray⟩ : Str)) = ⟨(TL.joinL sep ss).toArray⟩ := (PySem.StrLaws.glued_eq_join _ _).trans (join_str sep ss)
        rw [e2]
        exact n.sc r ⟨rfl, Nat.le_trans (joinL_len sep ss) hl⟩
    · cases ho
theorem pd_join {sep : List Nat} {z : Str} {j : Nat} {p1 : Pos} (F : Fin κ inj) (hz : z = ⟨sep.toArray⟩) (he : PE X e (TF T Wx KV f)) (hs : starEach [e] X.env = [(false, eval e X.env)] := by rfl) (hline : (apos.endLine == pos.line) = true := by rfl)
    (hbase : attributeBase (.Constant (.str z) j p1) "join" X.env (eval (.Constant (.str z) j p1) X.env) = eval (.Constant (.str z) j p1) X.env := by rfl) :
    PE X (.Call (.Attribute (.Constant (.str z) j p1) "join" apos) [e] [] pos) (TF T Wx κ (m1 inj (joinD sep) f)) := by
  subst hz
  exact peImp (pe_join pe_str he hs hbase hline) fun σ H Q q => ⟨⟨_, rfl⟩, tf1 F (sJoin (X := X)) q⟩
/-- the items, each frozen -/
def evL : List (M D) → M (List D)
  | [] => M.pure []
  | f :: r => f >>= fun d => evL r >>= fun ds => M.pure (d :: ds)
inductive PItems (X : Cx) (T : Cl) (Wx : WX) : List Expr → List (M D) → TA → Prop
  | nil : PItems X T Wx [] [] tNil
  | cons {e : Expr} {es : List Expr} {f : M D} {r : List (M D)} {t : TA} : PE X e (TF T Wx KD f) → PItems X T Wx es r t → starEach (e :: es) X.env = (false, eval e X.env) :: starEach es X.env → PItems X T Wx (e :: es) (f :: r) (tCons (TF T Wx KD f) t)
theorem PItems.pa {es : List Expr} {r : List (M D)} {t : TA} (h : PItems X T Wx es r t) : PA X es t := by
  induction h with
  | nil => exact pa_nil
  | cons h1 _ h3 ih => exact pa_cons h1 ih h3
theorem PItems.rd {es : List Expr} {r : List (M D)} {t : TA} (h : PItems X T Wx es r t) : ∀ {σ : St} {H : Hp} {Q : List V → Hp → Prop}, TF T Wx KL (evL r) σ H Q → t σ H Q := by
  induction h with
  | nil =>
    intro σ H Q ⟨Z, env, r0, p⟩
    exact p Z H [] ((Adv.refl (O := Owns σ env) r0.ex).weak fun y hy => hy.elim id fun z => z.elim) r0 rfl fun _ z => z.elim
  | @cons e es f r t h1 _ h3 ih =>
    intro σ H Q q0
    refine TF.bind q0 fun Z1 H1 v d env1 r1 s1 _ p1 => ih ?_
    have p1 := p1.later ((Adv.refl (O := fun a => Owns σ env1 a ∨ KD.ext v d a) r1.ex).weak (O2 := Owns σ env1) fun y hy => .inl hy)
    refine ⟨Z1, env1, r1, ?_⟩
    have p1 : Post T Wx KL σ (Owns σ env1) Z1 H1 ((evL r env1).bind fun ds => M.pure (d :: ds)) Q := p1
    cases e2 : evL r env1 with
    | ok xs env2 =>
      rw [e2] at p1
      intro Z2 H2 vs a2 r2 s2 _
      exact p1 Z2 H2 (v :: vs) (a2.trans ((Adv.refl (O := fun a => Owns σ env2 a ∨ KL.ext vs xs a) r2.ex).weak fun y hy => .inl (hy.elim id fun z => z.elim))) r2 ⟨v, vs, rfl, Sh.mono a2.zz d v s1, s2⟩ fun _ z => z.elim
    | exc c ns ds env2 => rw [e2] at p1; exact p1
    | bad => rw [e2] at p1; exact p1
def lstM (inj : W → α) (r : List (M D)) : M α := evL r >>= fun ds => ofO (some (inj (.ml ds)))
def tupM (inj : W → α) (r : List (M D)) : M α := evL r >>= fun ds => ofO (some (inj (.sh (.tup ds))))
theorem evL_len : ∀ {r : List (M D)} {env env' : Env'} {ds : List D}, evL r env = .ok ds env' → ds.length = r.length
  | [], env, env', ds, h => by
    have : (.ok [] env : R (List D)) = .ok ds env' := h
    cases this; rfl
  | f :: r, env, env', ds, h => by
    have h : ((f env).bind fun d => evL r >>= fun ds => M.pure (d :: ds)) = .ok ds env' := h
    cases e1 : f env with
    | ok d e2 =>
      rw [e1] at h
      have h : ((evL r e2).bind fun ds => M.pure (d :: ds)) = .ok ds env' := h
      cases e3 : evL r e2 with
      | ok ys e4 =>
        rw [e3] at h
        have h : (.ok (d :: ys) e4 : R (List D)) = .ok ds env' := h
        cases h
        rw [List.length_cons, List.length_cons, evL_len e3]
      | exc _ _ _ _ => rw [e3] at h; cases h
      | bad => rw [e3] at h; cases h
    | exc _ _ _ _ => rw [e1] at h; cases h
    | bad => rw [e1] at h; cases h
theorem items_then {r : List (M D)} {t : TA} {mk : List D → W} {R' : List V → Hp → Prop} {σ : St} {H : Hp} {Q : VK} (F : Fin κ inj) (A : PItems X T Wx es r t) (q : TF T Wx κ (evL r >>= fun ds => ofO (some (inj (mk ds)))) σ H Q)
    (k : ∀ Z1 H1 vs ds env1, ds.length = r.length → REnv T Z1 H1 σ env1 → ShL T Z1 ds vs → Now T σ env1 Z1 H1 (mk ds) Q → R' vs H1) : t σ H R' := by
  refine A.rd ?_
  obtain ⟨Z, env, r0, p⟩ := q
  refine ⟨Z, env, r0, ?_⟩
  have p : Post T Wx κ σ (Owns σ env) Z H ((evL r env).bind fun ds => ofO (some (inj (mk ds)))) Q := p
  cases e : evL r env with
  | ok ds env1 =>
    rw [e] at p
    intro Z1 H1 vs a r1 s _
    exact k Z1 H1 vs ds env1 (evL_len e) r1 s (F.now (p.later a) fun _ h => .inl h)
  | exc _ _ _ _ => rw [e] at p; exact p
  | bad => rw [e] at p; exact p
theorem pd_lst {r : List (M D)} {t : TA} (F : Fin κ inj) (A : PItems X T Wx es r t) (hl : r.length ≤ lim := by decide) : PE X (.List es pos) (TF T Wx κ (lstM inj r)) :=
  peImp (pe_lst A.pa) fun σ H Q q => items_then (mk := .ml) F A q fun Z1 H1 vs ds env1 n r1 s nw => ⟨by rw [s.length, n]; exact hl, fun p hp => nw.ml r1 s (by rw [n]; exact hl) hp⟩
theorem pd_tup {r : List (M D)} {t : TA} {k1} (F : Fin κ inj) (A : PItems X T Wx es r t) (hl : r.length ≤ lim := by decide) : PE X (.Tuple es k1 pos) (TF T Wx κ (tupM inj r)) :=
  peImp (pe_tup A.pa) fun σ H Q q => items_then (mk := fun ds => .sh (.tup ds)) F A q fun Z1 H1 vs ds env1 n r1 s nw => ⟨by rw [s.length, n]; exact hl, fun p hp => nw.tup r1 s (by rw [n]; exact hl) hp⟩
end
end Wc
namespace Wc
open PySem L2
section
variable {X : Cx} {T : Cl} {Wx : WX} {α : Type} {κ : Kind α V} {inj : W → α} {a b c e o : Expr} {es : List Expr} {f g h : M D} {p pos apos : Pos} {i : Nat} {x : Str} {bid ty : String} {as : List Nat}
def cutD {β : Type} (xs : List β) (lo hi : Option Int) : List β := (xs.drop (HT.sIx xs.length 0 lo)).take (HT.sIx xs.length xs.length hi - HT.sIx xs.length 0 lo)
def slD (d : D) (lo hi : Option Int) : Option W := match d with
  | .lst xs => some (.ml (cutD xs lo hi))
  | .str s => some (.sh (.str (cutD s lo hi)))
  | .tup xs => if HT.sIx xs.length 0 lo = 0 ∧ HT.sIx xs.length xs.length hi = xs.length then none else some (.sh (.tup (cutD xs lo hi)))
  | .scr ns => if ns.length ≤ lim then some (.ml (cutD (ns.map .int) lo hi)) else none
  | _ => none
theorem cutD_len {β : Type} (xs : List β) (lo hi : Option Int) : (cutD xs lo hi).length ≤ xs.length := by
  unfold cutD
  rw [List.length_take, List.length_drop]
  omega
theorem cutD_sh {Z : Hp} {ds : List D} {vs : List V} (s : ShL T Z ds vs) (lo hi : Option Int) : ShL T Z (cutD ds lo hi) (cutV vs lo hi) := by
  unfold cutD cutV
  rw [s.length]
  exact ShL.take _ (ShL.drop _ s)
def rSlG (K : PySem.W.Frag) : V → Option Int → Option Int → Hp → VK → Prop := fun x lo hi H Q => rSlL K x lo hi H Q ∨ rSlS x lo hi H Q ∨ rSlT K x lo hi H Q
theorem sl_G : SlR X (rSlG X.K) := sl_list.or (sl_str.or sl_tup)
theorem ints_sh {Z : Hp} : ∀ ns : List Int, ShL T Z (ns.map .int) (ns.map V.int)
  | [] => rfl
  | n :: ns => ⟨.int n, _, rfl, rfl, ints_sh ns⟩
theorem sSl {Z H : Hp} {σ : St} {env : Env'} {v : V} {d : D} {w : W} {Q : VK} {lo hi : Option Int} (hT : T.K = X.K) (r : REnv T Z H σ env) (hd : Vw T Z H d v) (ho : slD d lo hi = some w) (n : Now T σ env Z H w Q) : rSlG X.K v lo hi H Q := by
  cases d with
  | str s =>
    simp only [slD] at ho
    cases ho
    obtain ⟨rfl, hl⟩ := hd
    refine .inr (.inl ⟨_, rfl, by rw [str_len]; exact hl, ?_⟩)
    have e : cutS ⟨s.toArray⟩ lo hi = ⟨(cutD s lo hi).toArray⟩ := by
      unfold cutS cutD
      rw [str_len]
    rw [e]
    exact n.sc r ⟨rfl, Nat.le_trans (cutD_len s lo hi) hl⟩
  | tup xs =>
    simp only [slD] at ho
    split at ho
    · cases ho
    · rename_i hn
      cases ho
      obtain ⟨a, vs, rfl, h1, hl, s⟩ := hd
      exact .inr (.inr ⟨a, vs, rfl, SqT.of (r.ex _ _ h1), by rw [s.length]; exact hn, fun p hp => n.tup r (cutD_sh s lo hi) (Nat.le_trans (cutD_len xs lo hi) hl) hp⟩)
  | lst xs =>
    simp only [slD] at ho
    cases ho
    obtain ⟨a, vs, rfl, h1, hl, s⟩ := hd
    exact .inl ⟨a, vs, rfl, SqL.of h1, fun p hp => n.ml r (cutD_sh s lo hi) (Nat.le_trans (cutD_len xs lo hi) hl) hp⟩
  | scr ns =>
    simp only [slD] at ho
    split at ho
    · rename_i hn
      cases ho
      obtain ⟨a, rfl, h1⟩ := hd
      have h1 : SqL X.K H a (ns.map V.int) := by rw [← hT]; exact ex_sql r.ex h1
      exact .inl ⟨a, _, rfl, h1, fun p hp => n.ml r (cutD_sh (ints_sh ns) lo hi) (Nat.le_trans (cutD_len _ lo hi) (by rw [List.length_map]; exact hn)) hp⟩
    · cases ho
  | non => simp only [slD] at ho; cases ho
  | exn _ _ _ => simp only [slD] at ho; cases ho
  | fnv _ => simp only [slD] at ho; cases ho
  | bl _ => simp only [slD] at ho; cases ho
  | int _ => simp only [slD] at ho; cases ho
  | dic _ _ => simp only [slD] at ho; cases ho
  | obj _ _ _ => simp only [slD] at ho; cases ho
/-- a slice's end: there or not -/
def KO : Kind (Option Int) (Option Int) := ⟨fun _ _ _ a b => a = b, fun _ _ _ => False⟩
def noE : M (Option Int) := M.pure none
def someE (f : M D) : M (Option Int) := f >>= fun d => ofO (match d with
  | .int i => some (some i)
  | _ => none)
theorem po_no : PO X none (TF T Wx KO noE) := ⟨fun pins s σ H Q I ⟨Z, env, r, q⟩ => po_none.run pins s σ H Q I (q Z H none ((Adv.refl (O := Owns σ env) r.ex).weak fun y hy => hy.elim id fun z => z.elim) r rfl fun _ z => z.elim)⟩
theorem po_so (he : PE X e (TF T Wx KD f)) : PO X (some e) (TF T Wx KO (someE f)) := ⟨fun pins s σ H Q I q => (po_some he).run pins s σ H Q I (TF.bind q fun Z1 H1 v d env1 r1 s1 _ p => by
  obtain ⟨y, e1, p⟩ := ofO_end p
  cases d <;> simp only at e1 <;> cases e1
  obtain rfl := s1
  exact ⟨_, rfl, p Z1 H1 _ ((Adv.refl (O := fun a => Owns σ env1 a ∨ KD.ext (V.int _) _ a) r1.ex).weak fun y hy => .inl (hy.elim id fun z => z.elim)) r1 rfl fun _ z => z.elim⟩)⟩
def slM (inj : W → α) (f : M D) (l u : M (Option Int)) : M α := f >>= fun d => l >>= fun lo => u >>= fun hi => ofO ((slD d lo hi).map inj)
def slN (inj : W → α) (i : Nat) (l u : M (Option Int)) : M α := pk i >>= fun _ => l >>= fun lo => u >>= fun hi => pk i >>= fun d => ofO ((slD d lo hi).map inj)
theorem slTail {l u : M (Option Int)} {σ : St} {H : Hp} {Q : VK} {R : Option Int → Option Int → Hp → Prop} {k : Option Int → Option Int → M α} {P : Hp → Prop} (hP : ∀ {O O' : Addr → Prop} {Z H Z' H' : Hp}, Adv O Z H O' Z' H' → P Z → P Z')
    {Z : Hp} {env : Env'} (r : REnv T Z H σ env) (pz : P Z) (p : Post T Wx κ σ (Owns σ env) Z H ((l >>= fun lo => u >>= fun hi => k lo hi) env) Q)
    (kk : ∀ Z1 H1 lo hi env1, P Z1 → REnv T Z1 H1 σ env1 → Post T Wx κ σ (Owns σ env1) Z1 H1 (k lo hi env1) Q → R lo hi H1) : TF T Wx KO l σ H fun lo H1 => TF T Wx KO u σ H1 fun hi H2 => R lo hi H2 := by
  refine ⟨Z, env, r, ?_⟩
  have p : Post T Wx κ σ (Owns σ env) Z H ((l env).bind fun lo => u >>= fun hi => k lo hi) Q := p
  cases e1 : l env with
  | ok lo env1 =>
    rw [e1] at p
    intro Z1 H1 lo' a1 r1 el _
    have el : lo' = lo := el
    subst el
    have p := p.later a1
    refine ⟨Z1, env1, r1, ?_⟩
    have p := p.later ((Adv.refl (O := fun y => Owns σ env1 y ∨ KO.ext lo' lo' y) r1.ex).weak (O2 := Owns σ env1) fun y hy => .inl hy)
    have p : Post T Wx κ σ (Owns σ env1) Z1 H1 ((u env1).bind fun hi => k lo' hi) Q := p
    cases e2 : u env1 with
    | ok hi env2 =>
      rw [e2] at p
      intro Z2 H2 hi' a2 r2 eh _
      have eh : hi' = hi := eh
      subst eh
      exact kk Z2 H2 lo' hi' env2 (hP a2 (hP a1 pz)) r2 (p.later (a2.weak fun y hy => .inl hy))
    | exc _ _ _ _ => rw [e2] at p; exact p
    | bad => rw [e2] at p; exact p
  | exc _ _ _ _ => rw [e1] at p; exact p
  | bad => rw [e1] at p; exact p
theorem pd_sl {l u : M (Option Int)} {lo hi : Option Expr} {p2 : Pos} (F : Fin κ inj) (hT : T.K = X.K) (he : PE X e (TF T Wx KD f)) (hl : PO X lo (TF T Wx KO l)) (hu : PO X hi (TF T Wx KO u)) : PE X (.Subscript e (.Slice lo hi none p2) pos) (TF T Wx κ (slM inj f l u)) :=
  peImp (pe_slice sl_G he hl hu) fun σ H Q q => TF.bind q fun Z1 H1 v d env1 r1 s1 _ p0 => by
    have p1 := p0.later ((Adv.refl (O := fun y => Owns σ env1 y ∨ KD.ext v d y) r1.ex).weak (O2 := Owns σ env1) fun y hy => .inl hy)
    refine slTail (P := fun Z => Sh T Z d v) (R := fun lo hi H2 => rSlG X.K v lo hi H2 Q) (fun a z => Sh.mono a.zz d v z) r1 s1 p1 fun Z2 H2 lo hi env2 s2 r2 p2 => ?_
    obtain ⟨w, e1, n⟩ := Post.ofO F p2 fun _ h => h
    exact sSl hT r2 (Sh.vw r2.ex s2) e1 n
theorem pd_slN {l u : M (Option Int)} {lo hi : Option Expr} {p2 : Pos} (F : Fin κ inj) (hT : T.K = X.K) (he : PE X e (tVar i)) (hl : PO X lo (TF T Wx KO l)) (hu : PO X hi (TF T Wx KO u)) : PE X (.Subscript e (.Slice lo hi none p2) pos) (TF T Wx κ (slN inj i l u)) :=
  peImp (pe_slice sl_G he hl hu) fun σ H Q ⟨Z, env, r, p⟩ => by
    have p : Post T Wx κ σ (Owns σ env) Z H ((pk i env).bind fun _ => l >>= fun lo => u >>= fun hi => pk i >>= fun d => ofO ((slD d lo hi).map inj)) Q := p
    cases q : env[i]? with
    | none => simp only [pk, q, R.bind] at p; exact p.elim
    | some ow =>
      cases ow with
      | none => simp only [pk, q, R.bind] at p; exact p.elim
      | some w0 =>
        simp only [pk, q, R.bind] at p
        obtain ⟨v, hv, hw⟩ := r.at_ i w0 q
        refine ⟨v, hv, slTail (P := fun _ => True) (k := fun lo hi => pk i >>= fun d => ofO ((slD d lo hi).map inj)) (R := fun lo hi H2 => rSlG X.K v lo hi H2 Q) (fun _ _ => trivial) r trivial p fun Z2 H2 lo hi env2 _ r2 p2 => ?_⟩
        have p2 : Post T Wx κ σ (Owns σ env2) Z2 H2 ((pk i env2).bind fun d => ofO ((slD d lo hi).map inj)) Q := p2
        cases q2 : env2[i]? with
        | none => simp only [pk, q2, R.bind] at p2; exact p2.elim
        | some ow2 =>
          cases ow2 with
          | none => simp only [pk, q2, R.bind] at p2; exact p2.elim
          | some w2 =>
            simp only [pk, q2, R.bind] at p2
            obtain ⟨v', hv', hw'⟩ := r2.at_ i w2 q2
            rw [hv] at hv'; cases hv'
            obtain ⟨w, e1, n⟩ := Post.ofO F p2 fun _ h => h
            exact sSl hT r2 (hw'.vw r2.ex) e1 n
def truD : D → Option Bool
  | .non => some false
  | .bl k => some k
  | .int j => some (j != 0)
  | .str s => some (!s.isEmpty)
  | .tup xs => some (!xs.isEmpty)
  | .lst xs => some (!xs.isEmpty)
  | .dic _ _ => none
  | _ => none
theorem truD_ok {Z H : Hp} {d : D} {v : V} {k : Bool} (ex : Ex Z H) (h : truD d = some k) (hd : Vw T Z H d v) : TruV X.K v H k := by
  have em : ∀ {ds : List D} {vs : List V}, ShL T Z ds vs → vs.isEmpty = ds.isEmpty := fun {ds vs} s => by
    have := s.length
    cases ds <;> cases vs <;> simp_all
  cases d <;> simp only [truD] at h <;> cases h
  · obtain rfl := hd; rfl
  · obtain rfl := hd; rfl
  · obtain rfl := hd; rfl
  · rename_i s
    obtain ⟨rfl, hl⟩ := hd
    refine ⟨by rw [str_len]; exact hl, ?_⟩
    rw [str_len]
    cases s with
    | nil => rfl
    | cons c r => simp; omega
  · obtain ⟨a, vs, rfl, h1, _, s⟩ := hd
    exact .inr (.inl ⟨vs, SqT.of (ex _ _ h1), by rw [em s]⟩)
  · obtain ⟨a, vs, rfl, h1, _, s⟩ := hd
    exact .inl ⟨vs, SqL.of h1, by rw [em s]⟩
def tstM (f : M D) : M Bool := f >>= fun d => ofO (truD d)
def boolD : D → Option Bool
  | .bl k => some k
  | _ => none
def tbM (f : M D) : M Bool := f >>= fun d => ofO (boolD d)
theorem tstTF {σ : St} {H : Hp} {Q : Bool → Hp → Prop} (q : TF T Wx KB (tstM f) σ H Q) : TF T Wx KV f σ H fun v H1 => ∃ k, TruV X.K v H1 k ∧ Q k H1 :=
  TF.bind q fun Z1 H1 v d env1 r1 s1 _ p => by
    obtain ⟨k, e1, p⟩ := ofO_end p
    exact ⟨k, truD_ok r1.ex e1 s1, p Z1 H1 k ((Adv.refl (O := fun y => Owns σ env1 y ∨ KV.ext v d y) r1.ex).weak fun y hy => .inl (hy.elim id fun z => z.elim)) r1 rfl fun _ z => z.elim⟩
theorem tbTF {σ : St} {H : Hp} {Q : Bool → Hp → Prop} (q : TF T Wx KB (tbM f) σ H Q) : TF T Wx KD f σ H fun v H1 => ∃ k, v = .bl k ∧ Q k H1 :=
  TF.bind q fun Z1 H1 v d env1 r1 s1 _ p => by
    obtain ⟨k, e1, p⟩ := ofO_end p
    cases d <;> simp only [boolD] at e1 <;> cases e1
    exact ⟨_, s1, p Z1 H1 _ ((Adv.refl (O := fun y => Owns σ env1 y ∨ KD.ext v _ y) r1.ex).weak fun y hy => .inl (hy.elim id fun z => z.elim)) r1 rfl fun _ z => z.elim⟩
/-- any expression as a test -/
theorem pt_e (he : PE X e (TF T Wx KV f)) (ht : ∀ whole, isTrue e X.env whole = (do let v ← whole; standAt e.pos; holding [v] (truthy v)) := by intro _; rfl) : PT X e (TF T Wx KB (tstM f)) :=
  ptImp (pt_truth he ht) fun _ _ _ q => tstTF q
theorem pt_c2 {op : CmpOp} {r : R2} {o : D → D → Option W} (ho : OpR X (compareOp op) r) (S : S2 T r o) (ha : PE X a (TF T Wx KD f)) (hb : PE X b (TF T Wx KV g)) (hm : behindInMarks op b = false) : PT X (.Compare a [op] [b] pos) (TF T Wx KB (tbM (m2 W.view o f g))) :=
  ptImp (pt_cmpR ho ha hb hm) fun σ H Q q => tf2 (κ := KD) finD S (tbTF q)
theorem pt_c2n {op : CmpOp} {r : R2} {o : D → D → Option W} (ho : OpR X (compareOp op) r) (S : S2 T r o) (ha : PE X a (tVar i)) (hb : PE X b (TF T Wx KV g)) (hm : behindInMarks op b = false) : PT X (.Compare a [op] [b] pos) (TF T Wx KB (tbM (m2n W.view o i g))) :=
  ptImp (pt_cmpR ho ha hb hm) fun σ H Q q => tf2n (κ := KD) finD S (tbTF q)
def andM (t u : M Bool) : M Bool := t >>= fun c => if c = true then u else M.pure false
def orM (t u : M Bool) : M Bool := t >>= fun c => if c = true then M.pure true else u
def notM (t : M Bool) : M Bool := t >>= fun c => M.pure (!c)
section
variable {t u : M Bool} {rest : List Expr}
theorem boolTail {β' γ : Type} {κ2 : Kind γ β'} {m : Bool → M γ} {σ : St} {H : Hp} {Q : β' → Hp → Prop} {R : Bool → Hp → Prop} (q : TF T Wx κ2 (t >>= m) σ H Q) (k : ∀ c H1, TF T Wx κ2 (m c) σ H1 Q → R c H1) : TF T Wx KB t σ H R :=
  TF.bind q fun Z1 H1 v d env1 r1 e _ p => by
    have e : v = d := e
    subst e
    exact k v H1 ⟨Z1, env1, r1, p.later ((Adv.refl (O := fun y => Owns σ env1 y ∨ KB.ext v v y) r1.ex).weak fun y hy => .inl hy)⟩
theorem pureTF {β' γ : Type} {κ2 : Kind γ β'} {y : γ} {z : β'} {σ : St} {H : Hp} {Q : β' → Hp → Prop} (q : TF T Wx κ2 (M.pure y) σ H Q) (k : ∀ Z, κ2.rel T Z H z y) (n : ∀ x, ¬ κ2.ext z y x) : Q z H := by
  obtain ⟨Z, env, r, p⟩ := q
  exact p Z H z ((Adv.refl (O := Owns σ env) r.ex).weak fun y hy => hy.elim id fun w => absurd w (n y)) r (k Z) fun x w => absurd w (n x)
theorem pw_and' (ha : PT X a (TF T Wx KB t)) (hb : PW X (.BoolOp .And (b :: rest) pos) (TF T Wx KB u)) : PW X (.BoolOp .And (a :: b :: rest) pos) (TF T Wx KB (andM t u)) :=
  ⟨fun wh pins s σ H Q I q => (pw_and ha hb).run wh pins s σ H Q I (boolTail q fun c H1 z => by
    cases c with
    | true => exact z
    | false => exact pureTF z (fun _ => rfl) fun _ w => w)⟩
theorem pw_or' (ha : PT X a (TF T Wx KB t)) (hb : PW X (.BoolOp .Or (b :: rest) pos) (TF T Wx KB u)) : PW X (.BoolOp .Or (a :: b :: rest) pos) (TF T Wx KB (orM t u)) :=
  ⟨fun wh pins s σ H Q I q => (pw_or ha hb).run wh pins s σ H Q I (boolTail q fun c H1 z => by
    cases c with
    | true => exact pureTF z (fun _ => rfl) fun _ w => w
    | false => exact z)⟩
theorem pt_not' (ha : PT X a (TF T Wx KB t)) : PT X (.UnaryOp .Not a pos) (TF T Wx KB (notM t)) := ptImp (pt_not ha) fun σ H Q q => boolTail q fun c H1 z => pureTF z (fun _ => rfl) fun _ w => w
/-- x if t else y -/
def ifxM {γ : Type} (t : M Bool) (f g : M γ) : M γ := t >>= fun c => if c = true then f else g
theorem pd_ifx {f g : M α} (hc : PT X c (TF T Wx KB t)) (ha : PE X a (TF T Wx κ f)) (hb : PE X b (TF T Wx κ g)) : PE X (.IfExp c a b pos) (TF T Wx κ (ifxM t f g)) :=
  peImp (pe_ifExp hc ha hb) fun σ H Q q => boolTail q fun c H1 z => by
    cases c with
    | true => exact z
    | false => exact z
/-- and, or, not as values -/
def andV (f g : M D) : M D := f >>= fun d => ofO (truD d) >>= fun c => if c = true then g else M.pure d
def orV (f g : M D) : M D := f >>= fun d => ofO (truD d) >>= fun c => if c = true then M.pure d else g
def notV (f : M D) : M D := f >>= fun d => ofO ((truD d).map fun c => .bl (!c))
theorem pd_one {op} {f : M α} (h : PE X a (TF T Wx κ f)) : PE X (.BoolOp op [a] pos) (TF T Wx κ f) := pe_one h
theorem pd_and (ha : PE X a (TF T Wx KD f)) (hb : PE X (.BoolOp .And (b :: rest) pos) (TF T Wx KD g)) : PE X (.BoolOp .And (a :: b :: rest) pos) (TF T Wx KD (andV f g)) :=
  peImp (pe_andT ha hb) fun σ H Q q => TF.bind q fun Z1 H1 v d env1 r1 s1 _ p0 => by
    have p := p0.later ((Adv.refl (O := fun y => Owns σ env1 y ∨ KD.ext v d y) r1.ex).weak (O2 := Owns σ env1) fun y hy => .inl hy)
    obtain ⟨c, e1, p⟩ := ofO_post (β := V) p
    refine ⟨c, truD_ok r1.ex e1 (Sh.vw r1.ex s1), ?_⟩
    cases c with
    | true => exact ⟨Z1, env1, r1, p⟩
    | false => exact p Z1 H1 v ((Adv.refl (O := Owns σ env1) r1.ex).weak fun y hy => hy.elim id fun z => z.elim) r1 s1 fun _ z => z.elim
theorem pd_or (ha : PE X a (TF T Wx KD f)) (hb : PE X (.BoolOp .Or (b :: rest) pos) (TF T Wx KD g)) : PE X (.BoolOp .Or (a :: b :: rest) pos) (TF T Wx KD (orV f g)) :=
  peImp (pe_orT ha hb) fun σ H Q q => TF.bind q fun Z1 H1 v d env1 r1 s1 _ p0 => by
    have p := p0.later ((Adv.refl (O := fun y => Owns σ env1 y ∨ KD.ext v d y) r1.ex).weak (O2 := Owns σ env1) fun y hy => .inl hy)
    obtain ⟨c, e1, p⟩ := ofO_post (β := V) p
    refine ⟨c, truD_ok r1.ex e1 (Sh.vw r1.ex s1), ?_⟩
    cases c with
    | false => exact ⟨Z1, env1, r1, p⟩
    | true => exact p Z1 H1 v ((Adv.refl (O := Owns σ env1) r1.ex).weak fun y hy => hy.elim id fun z => z.elim) r1 s1 fun _ z => z.elim
theorem pd_not (ha : PE X a (TF T Wx KV f)) : PE X (.UnaryOp .Not a pos) (TF T Wx KD (notV f)) :=
  peImp (pe_notT ha) fun σ H Q q => TF.bind q fun Z1 H1 v d env1 r1 s1 _ p => by
    obtain ⟨y, e1, p⟩ := ofO_end p
    cases e2 : truD d with
    | none => rw [e2] at e1; cases e1
    | some c =>
      rw [e2] at e1
      cases e1
      exact ⟨c, truD_ok r1.ex e2 s1, p Z1 H1 _ ((Adv.refl (O := fun y => Owns σ env1 y ∨ KV.ext v d y) r1.ex).weak fun y hy => .inl (hy.elim id fun z => z.elim)) r1 rfl fun _ z => z.elim⟩
/-- is None -/
def D.isNon : D → Bool
  | .non => true
  | _ => false
def notND (d : D) : Option W := some (.sh (.bl (!d.isNon)))
theorem isN_eq {Z H : Hp} {d : D} {v : V} (hd : Vw T Z H d v) : decide (v = .non) = d.isNon := by
  cases d with
  | non => obtain rfl := hd; rfl
  | bl _ => obtain rfl := hd; rfl
  | int _ => obtain rfl := hd; rfl
  | str _ => obtain ⟨rfl, _⟩ := hd; rfl
  | tup _ => obtain ⟨a, vs, rfl, _⟩ := hd; rfl
  | lst _ => obtain ⟨a, vs, rfl, _⟩ := hd; rfl
  | dic _ _ => obtain ⟨a, vs, rfl, _⟩ := hd; rfl
  | obj _ _ _ => obtain ⟨a, _, _, rfl, _⟩ := hd; rfl
  | scr _ => obtain ⟨a, rfl, _⟩ := hd; rfl
  | exn _ _ _ => obtain ⟨a, _, rfl, _⟩ := hd; rfl
  | fnv _ => obtain rfl := (show _ = V.ref _ from hd); rfl
theorem sNotN : S1 T (fun v H Q => Q (.bl (!decide (v = .non))) H) notND := by
  intro Z H σ env v d w Q r hd ho n
  simp only [notND] at ho; cases ho
  exact n.sc r (by rw [isN_eq hd]; rfl)
theorem pt_notN {j p'} (ha : PE X a (TF T Wx KV f)) : PT X (.Compare a [.IsNot] [.Constant .none j p'] pos) (TF T Wx KB (tbM (m1 W.view notND f))) := ptImp (pt_cmp (pc_notN ha)) fun _ _ _ q => tf1 (κ := KD) finD sNotN (tbTF q)
/-- a < b < c -/
def chM (o1 o2 : D → D → Option W) (f g h : M D) : M D := f >>= fun x => g >>= fun y => ofO ((o1 x y).bind fun w => boolD w.view) >>= fun k => if k = true then h >>= fun z => ofO ((o2 y z).map W.view) else M.pure (.bl false)
theorem chTF {o1 o2 : D → D → Option W} {r1 r2 : R2} (S1' : S2 T r1 o1) (S2' : S2 T r2 o2) {σ : St} {H : Hp} {Q : VK} (q : TF T Wx KD (chM o1 o2 f g h) σ H Q) : tChain r1 r2 (TF T Wx KD f) (TF T Wx KD g) (TF T Wx KV h) σ H Q :=
  TF.bind q fun Z1 H1 v d env1 ra s1 _ p0 => by
    have p := p0.later ((Adv.refl (O := fun y => Owns σ env1 y ∨ KD.ext v d y) ra.ex).weak (O2 := Owns σ env1) fun y hy => .inl hy)
    have p : Post T Wx KD σ (Owns σ env1) Z1 H1 ((g env1).bind fun y => ofO ((o1 d y).bind fun w => boolD w.view) >>= fun k => if k = true then h >>= fun z => ofO ((o2 y z).map W.view) else M.pure (.bl false)) Q := p
    refine ⟨Z1, env1, ra, ?_⟩
    cases eg : g env1 with
    | ok y env2 =>
      rw [eg] at p
      intro Z2 H2 u adv rb s2 _
      have p := (p.later adv).later ((Adv.refl (O := fun a => Owns σ env2 a ∨ KD.ext u y a) rb.ex).weak (O2 := Owns σ env2) fun y hy => .inl hy)
      obtain ⟨k, e1, p⟩ := ofO_post (β := V) p
      cases e2 : o1 d y with
      | none => rw [e2] at e1; cases e1
      | some w =>
        rw [e2] at e1
        have e1 : boolD w.view = some k := e1
        have hk : w = .sh (.bl k) := by
          cases w with
          | sh d' => cases d' <;> simp only [W.view, boolD] at e1 <;> cases e1; rfl
          | ml _ => simp only [W.view, boolD] at e1; cases e1
          | mo _ _ _ => simp only [W.view, boolD] at e1; cases e1
          | md _ _ => simp only [W.view, boolD] at e1; cases e1
        subst hk
        refine S1' Z2 H2 σ env2 v u d y _ _ rb (Sh.vw rb.ex (Sh.mono adv.zz d v s1)) (Sh.vw rb.ex s2) e2 fun Z3 H3 v3 a3 r3 k3 _ => ?_
        have a3 : Adv (Owns σ env2) Z2 H2 (Owns σ env2) Z3 H3 := a3.weak fun y hy => .inl hy
        refine ⟨k, k3, ?_⟩
        have p := p.later a3
        cases k with
        | false => exact p Z3 H3 _ ((Adv.refl (O := Owns σ env2) r3.ex).weak fun y hy => hy.elim id fun z => z.elim) r3 rfl fun _ z => z.elim
        | true =>
          have p : Post T Wx KD σ (Owns σ env2) Z3 H3 ((h env2).bind fun z => ofO ((o2 y z).map W.view)) Q := p
          refine ⟨Z3, env2, r3, ?_⟩
          cases eh : h env2 with
          | ok z env3 =>
            rw [eh] at p
            intro Z4 H4 u4 a4 r4 s4 _
            obtain ⟨w4, e4, n4⟩ := Post.ofO finD (p.later a4) fun _ h => .inl h
            exact S2' Z4 H4 σ env3 u u4 y z w4 Q r4 (Sh.vw r4.ex (Sh.mono (a3.zz.trans a4.zz) y u s2)) s4 e4 n4
          | exc _ _ _ _ => rw [eh] at p; exact p
          | bad => rw [eh] at p; exact p
    | exc _ _ _ _ => rw [eg] at p; exact p
    | bad => rw [eg] at p; exact p
theorem pd_ch {op op' : CmpOp} {r r' : R2} {o1 o2 : D → D → Option W} (ho : OpR X (compareOp op) r) (ho' : OpR X (compareOp op') r') (S : S2 T r o1) (S' : S2 T r' o2) (ha : PE X a (TF T Wx KD f)) (hb : PE X b (TF T Wx KD g)) (hc : PE X c (TF T Wx KV h))
    (hm : lastMarks [op, op'] [b, c] = false := by with_unfolding_all rfl) : PE X (.Compare a [op, op'] [b, c] pos) (TF T Wx KD (chM o1 o2 f g h)) :=
  peImp (pe_chain ho ho' ha hb hc hm) fun _ _ _ q => chTF S S' q
theorem pt_ch {op op' : CmpOp} {r r' : R2} {o1 o2 : D → D → Option W} (ho : OpR X (compareOp op) r) (ho' : OpR X (compareOp op') r') (S : S2 T r o1) (S' : S2 T r' o2) (ha : PE X a (TF T Wx KD f)) (hb : PE X b (TF T Wx KD g)) (hc : PE X c (TF T Wx KV h))
    (hm : lastMarks [op, op'] [b, c] = false := by with_unfolding_all rfl) : PT X (.Compare a [op, op'] [b, c] pos) (TF T Wx KB (tbM (chM o1 o2 f g h))) :=
  ptImp (pt_chain ho ho' ha hb hc hm) fun _ _ _ q => chTF S S' (tbTF q)
end
/-- the list of the name i becomes op of it -/
def wrE {β : Type} (i : Nat) (op : List D → Option (List D)) (y : β) (env : Env') : R β := match env[i]? with
  | some (some (.ml xs)) => match op xs with
    | some ys => if ys.length ≤ lim then .ok y (env.set i (some (.ml ys))) else .bad
    | none => .bad
  | _ => .bad
theorem REnv.wr {Z H : Hp} {σ : St} {env : Env'} {l : Addr} {xs ys : List D} {us : List V} (r : REnv T Z H σ env) (e : env[i]? = some (some (.ml xs))) (hv : σ[i]? = some (some (V.ref l))) (s : ShL T Z ys us) (hl : ys.length ≤ lim) :
    REnv T Z (upd H l (.lst us)) σ (env.set i (some (.ml ys))) ∧ Adv (Owns σ env) Z H (Owns σ (env.set i (some (.ml ys)))) Z (upd H l (.lst us)) := by
  obtain ⟨v, hv', l', vs, ev, zl, hl0, _⟩ := r.at_ i _ e
  rw [hv] at hv'
  cases hv'
  cases ev
  refine ⟨r.put e hv (Adv.write (O := fun p => V.ref l = .ref p ∧ W.own (.ml xs) = true) r.ex ⟨rfl, rfl⟩ zl) fun u eu => ?_, (Adv.write (O := Owns σ env) r.ex ⟨i, _, e, rfl, hv⟩ zl).weak fun q z => ?_⟩
  · cases eu
    exact ⟨⟨l, us, rfl, zl, upd_same, hl, s⟩, fun _ => rfl⟩
  · rcases z.set_sub with z | ⟨u, e1, e2, e3⟩
    · exact z
    · exact ⟨i, _, e, rfl, e3⟩
theorem wrE_ok {β γ : Type} {κ2 : Kind β γ} {op : List D → Option (List D)} {y : β} {σ : St} {O : Addr → Prop} {Z H : Hp} {env : Env'} {Q : γ → Hp → Prop} {l : Addr} {z : γ} (r : REnv T Z H σ env) (hO : ∀ a, Owns σ env a → O a) (hv : σ[i]? = some (some (V.ref l))) (p : Post T Wx κ2 σ O Z H (wrE i op y env) Q)
    (k : ∀ Z, κ2.rel T Z (H) z y ∧ ∀ H', κ2.rel T Z H' z y) (n : ∀ x, ¬ κ2.ext z y x) :
    ∃ xs vs, env[i]? = some (some (.ml xs)) ∧ H l = some (.lst vs) ∧ ShL T Z xs vs ∧ xs.length ≤ sizeLine ∧ ∃ ys, op xs = some ys ∧ ys.length ≤ lim ∧ ∀ us, ShL T Z ys us → Q z (upd H l (.lst us)) := by
  unfold wrE at p
  cases e : env[i]? with
  | none => rw [e] at p; exact p.elim
  | some ow =>
    cases ow with
    | none => rw [e] at p; exact p.elim
    | some w =>
      cases w with
      | sh _ => rw [e] at p; exact p.elim
      | mo _ _ _ => rw [e] at p; exact p.elim
      | md _ _ => rw [e] at p; exact p.elim
      | ml xs =>
        rw [e] at p
        simp only at p
        cases e2 : op xs with
        | none => rw [e2] at p; exact p.elim
        | some ys =>
          rw [e2] at p
          simp only at p
          split at p
          · rename_i hl
            obtain ⟨v, hv', l', vs, ev, zl, hl0, hl1, s⟩ := r.at_ i _ e
            rw [hv] at hv'; cases hv'; cases ev
            refine ⟨xs, vs, rfl, hl0, s, hl1, ys, e2, hl, fun us s' => ?_⟩
            obtain ⟨r2, a2⟩ := r.wr e hv s' hl
            exact p Z _ z ((a2.more hO).weak fun q hq => hq.elim id fun w => absurd w (n q)) r2 ((k Z).2 _) fun x w => absurd w (n x)
          · exact p.elim
def isMl : D → Option Unit
  | .lst _ => some ()
  | _ => none
/-- i.m(e): the list's new items by the old ones and the argument -/
def mt1 (i : Nat) (op : List D → D → Option (List D)) (f : M D) : M D := pk i >>= fun d => ofO (isMl d) >>= fun _ => f >>= fun y => wrE i (fun xs => op xs y) .non
theorem mt1TE {r : V → List V → Hp → VK → Prop} {op : List D → D → Option (List D)} (S : ∀ (Z H : Hp) (l : Addr) (vs : List V) (xs ys : List D) (y : D) (v : V) (Q : VK), Ex Z H → H l = some (.lst vs) → ShL T Z xs vs → Sh T Z y v → op xs y = some ys → ys.length ≤ lim → (∀ us, ShL T Z ys us → Q .non (upd H l (.lst us))) → r (.ref l) [v] H Q)
    {σ : St} {H : Hp} {Q : VK} (q : TF T Wx KD (mt1 i op f) σ H Q) : tBM X.K "list" r (tVar i) (tCons (TF T Wx KD f) tNil) σ H Q := by
  obtain ⟨Z, env, r0, p⟩ := q
  have p : Post T Wx KD σ (Owns σ env) Z H ((pk i env).bind fun d => ofO (isMl d) >>= fun _ => f >>= fun y => wrE i (fun xs => op xs y) .non) Q := p
  cases e : env[i]? with
  | none => simp only [pk, e, R.bind] at p; exact p.elim
  | some ow =>
    cases ow with
    | none => simp only [pk, e, R.bind] at p; exact p.elim
    | some w0 =>
      simp only [pk, e, R.bind] at p
      obtain ⟨v, hv, hw⟩ := r0.at_ i w0 e
      obtain ⟨u, e1, p⟩ := ofO_post (β := V) p
      have hd := hw.vw r0.ex
      obtain ⟨xs0, ex0⟩ : ∃ xs, w0.view = .lst xs := by
        cases h : w0.view <;> rw [h] at e1 <;> simp only [isMl] at e1 <;> first | (cases e1; done) | exact ⟨_, rfl⟩
      rw [ex0] at hd
      obtain ⟨l, vs0, rfl, h1, _, s0⟩ := hd
      refine ⟨_, hv, .inl ⟨rfl, vs0, SqL.of h1⟩, ?_⟩
      have q2 : TF T Wx KD (f >>= fun y => wrE i (fun xs => op xs y) .non) σ H Q := ⟨Z, env, r0, p⟩
      refine TF.bind q2 fun Z1 H1 v1 y env1 r1 s1 _ p1 => ?_
      obtain ⟨xs, vs, _, h2, s2, _, ys, e3, h3, h4⟩ := wrE_ok (κ2 := KD) (z := V.non) r1 (fun _ h => .inl h) hv p1 (fun _ => ⟨rfl, fun _ => rfl⟩) fun _ z => z
      exact S Z1 H1 l vs xs ys y v1 Q r1.ex h2 s2 s1 e3 h3 h4
def appOp (xs : List D) (y : D) : Option (List D) := if xs.length < lim then some (xs ++ [y]) else none
theorem pd_app (ho : PE X o (tVar i)) (he : PE X e (TF T Wx KD f)) (hbase : attributeBase o "append" X.env (eval o X.env) = eval o X.env := by rfl) (hline : (apos.endLine == pos.line) = true := by rfl) (hs : starEach [e] X.env = (false, eval e X.env) :: starEach [] X.env := by rfl)
    (hfew : ((backTo pos (starEach [e] X.env)).all (fun x => !x.1) && (backToKw pos (keywordEach [] X.env)).all (fun x => x.1.isSome) && decide ([e].length + ([] : List Keyword).length + (if ([] : List Keyword).isEmpty then 0 else 1) < 30)) = true := by rfl) :
    PE X (.Call (.Attribute o "append" apos) [e] [] pos) (TF T Wx KD (mt1 i appOp f)) :=
  peImp (pe_bm PySem.F.plainAttrs_list PySem.F.slot_list_append PySem.F.type_list_append mt_append ho (pa_cons he pa_nil hs) hbase hfew hline hs) fun σ H Q q => mt1TE (fun Z H l vs xs ys y v Q ex h1 s1 s2 e1 hl k => by
    unfold appOp at e1
    split at e1
    · rename_i hx
      cases e1
      exact ⟨l, vs, v, rfl, rfl, h1, by rw [s1.length]; exact hx, k _ (s1.append (ShL.one s2))⟩
    · cases e1) q
end
end Wc
namespace Wc
open PySem L2
def Itzs (x y : Str) : It := ⟨fun i _ => i < x.cps.size ∧ i < y.cps.size, fun i H v H' => ∃ (q : Addr) (c d : Nat), v = .ref q ∧ H q = none ∧ H' = upd H q (.tup [.str ⟨#[c]⟩, .str ⟨#[d]⟩]) ∧ x.cps[i]? = some c ∧ y.cps[i]? = some d,
  fun i _ => i = min x.cps.size y.cps.size⟩
theorem drawsS {P : Program} {w : World} {A : Around} (hh : A.handled = none) (it : Addr) (x : Str) (t : Tok) :
    Draws P w A it [it] x.cps.size (fun i v => ∃ c u, x.cps[i]? = some c ∧ v = .str ⟨#[c]⟩ u) (fun i h => h.IsStrIter it (strIterType x) x t i) := by
  unfold strIterType
  split
  · exact Draws.strAscii hh it x t
  · exact Draws.strWide hh it x t
theorem turn_zs {P : Program} {w : World} {K : PySem.W.Frag} {elts : List Expr} {kk : Nat} {tpos : Pos} {z TI TO i1 i2 : Addr} {x y : Str} {t1 t2 : Tok} (S : ZipSep2 z TI TO i1 i2 [i1] [i2]) :
    Turn P w K (.Tuple elts kk tpos) (Itzs x y) [z, TI, TO, i1, i2] z (fun i h => IsZip h z TI TO .none ∧ IsTupOf2 h TI (.ref i1) (.ref i2) ∧ (∃ a b, IsTupOf2 h TO a b) ∧ h.IsStrIter i1 (strIterType x) x t1 i ∧ h.IsStrIter i2 (strIterType y) y t2 i) where
  mem := List.mem_cons_self
  obj := by
    rintro i h ⟨hz, hTI, ⟨a, b, hTO⟩, ⟨o1, e1, _, d1⟩, ⟨o2, e2, _, d2⟩⟩ c hc
    simp only [List.mem_cons, List.not_mem_nil, or_false] at hc
    rcases hc with rfl | rfl | rfl | rfl | rfl
    · exact ⟨_, hz, fun v q => by cases q⟩
    · exact ⟨_, hTI, fun v q => by cases q⟩
    · exact ⟨_, hTO, fun v q => by cases q⟩
    · exact ⟨o1, e1, fun v q => by rw [d1] at q; cases q⟩
    · exact ⟨o2, e2, fun v q => by rw [d2] at q; cases q⟩
  keep := by
    rintro i h h' ⟨hz, hTI, ⟨a, b, hTO⟩, ⟨o1, e1, r1⟩, ⟨o2, e2, r2⟩⟩ k
    exact ⟨k z (by simp) _ hz, k TI (by simp) _ hTI, ⟨a, b, k TO (by simp) _ hTO⟩, ⟨o1, k i1 (by simp) _ e1, r1⟩, ⟨o2, k i2 (by simp) _ e2, r2⟩⟩
  item := by
    rintro X rfl rfl rfl hc i pins s σ H E I hf ⟨hz, hTI, ⟨a, b, hTO⟩, h1, h2⟩ ⟨g1, g2⟩
    have hh : X.A.in1.handled = none := I.ok.hd hc
    have zl : z < s.heap.objs.size := Heap.lt_size hz
    refine wpAny_pyNext_zipD2_item S (drawsS hh i1 x t1) (drawsS hh i2 y t2) hz hTI hTO h1 h2 g1 g2 fun x1 x2 h' tk y1 y2 z' TO' h1' h2' hT hsz hk => ?_
    obtain ⟨c, u, ec, rfl⟩ := y1
    obtain ⟨d, u2, ed, rfl⟩ := y2
    refine ⟨_, rfl, wpAny_letOwnedTupleGo_zip (s := { s with heap := h', toks := tk }) z' fun h'' z'' sb => ?_⟩
    have off : ∀ {p : Addr} {o : Obj}, p ≠ z → h'.get? p = some o → h''.get? p = some o := fun hp e => (sb.2 _ hp).trans e
    have hT2 : h''.get? s.heap.objs.size = some { cls := .type "tuple", data := .seq #[.str ⟨#[c]⟩ u, .str ⟨#[d]⟩ u2] } := off (Nat.ne_of_gt zl) hT
    have new : ObjOk X.prog X.w (upd H s.heap.objs.size (.tup [.str ⟨#[c]⟩, .str ⟨#[d]⟩])) h'' s.heap.objs.size (.tup [.str ⟨#[c]⟩, .str ⟨#[d]⟩]) :=
      ⟨by show 2 ≤ 16777216; decide, [.str ⟨#[c]⟩ u, .str ⟨#[d]⟩ u2], .cons ⟨_, rfl⟩ (.cons ⟨_, rfl⟩ .nil), ⟨_, hT2, rfl, _, rfl⟩⟩
    have I1 : Inv X pins σ (upd H s.heap.objs.size (.tup [.str ⟨#[c]⟩, .str ⟨#[d]⟩])) { s with heap := h'', toks := tk } :=
      I.turnedNew (ch := [z, TI, TO, i1, i2]) (fun q o hq e => off (fun e' => hq (by simp [e'])) (hk q o (fun e' => hq (by simp [e'])) (fun e' => hq (by simp [e'])) (fun e' => hq (by simp [e'])) (fun e' => hq (by simp [e'])) e)) hf (Nat.le_refl _) new
    obtain ⟨o1, e1, r1⟩ := h1'
    obtain ⟨o2, e2, r2⟩ := h2'
    refine ⟨.ref s.heap.objs.size, _, I1, rfl, ⟨_, c, d, rfl, I.hok.fresh (Nat.le_refl _), rfl, ec, ed⟩, ⟨z'', off S.TIz (hk _ _ S.TIz S.TITO S.TIi1 S.TIi2 hTI), ⟨_, _, off S.TOz TO'⟩, ⟨o1, off S.zi1.symm e1, r1⟩, ⟨o2, off S.zi2.symm e2, r2⟩⟩, fun q hq => ?_⟩
    have lt : q < s.heap.objs.size := by
      simp only [List.mem_cons, List.not_mem_nil, or_false] at hq
      rcases hq with rfl | rfl | rfl | rfl | rfl
      · exact zl
      · exact Heap.lt_size hTI
      · exact Heap.lt_size hTO
      · obtain ⟨_, e, _⟩ := h1; exact Heap.lt_size e
      · obtain ⟨_, e, _⟩ := h2; exact Heap.lt_size e
    rw [upd_ne (Nat.ne_of_lt lt)]
    exact (hf q hq).1
  done := by
    rintro X rfl rfl rfl hc i pins s σ H E I hf ⟨hz, hTI, ⟨a, b, hTO⟩, h1, h2⟩ hs
    have hh : X.A.in1.handled = none := I.ok.hd hc
    have hs : i = min x.cps.size y.cps.size := hs
    refine wpAny_pyNext_zipD2_end S (drawsS hh i1 x t1) (drawsS hh i2 y t2) hz hTI hTO h1 h2 (by omega) (by omega) (by omega) fun h' tk hk => ⟨rfl, ?_⟩
    exact I.turnedL (ch := [z, TI, TO, i1, i2]) (fun q o hq e => hk q o (fun e' => hq (by simp [e'])) (fun e' => hq (by simp [e'])) (fun e' => hq (by simp [e'])) (fun e' => hq (by simp [e'])) e) hf
  self := fun A i s Q E st h => wpAny_pyIter_zip st.1 h
def iZs (ta : TA) : TI := fun σ H R => ta σ H fun vs H1 => ∃ x y : Str, vs = [.str x, .str y] ∧ R (Itzs x y) H1
theorem pi_zs {X : Cx} {e e2 : Expr} {ta : TA} {p pos tpos : Pos} {elts : List Expr} {kk : Nat} (hg : Gl X "zip") (hm : X.mg "zip" = none) (ha : PA X [e, e2] ta)
    (hs : starEach [e, e2] X.env = (false, eval e X.env) :: starEach [e2] X.env := by rfl) (hpl : (backTo pos (starEach [e2] X.env)).any (·.1) = false := by rfl) : PI X (.Tuple elts kk tpos) (.Call (.Name "zip" p) [e, e2] [] pos) (iZs ta) := by
  refine ⟨fun pins s σ H R I h => PyProof.Rows.Call_ (ld_blt I hg hm PyProof.Rows.boot_zip (PyProof.Rows.callWith_type1 (thn (ha.run pos pins s σ H _ I h) fun us s1 hz => ?_) hs hpl))⟩
  obtain ⟨vs, H1, I1, r1, x, y, rfl, q⟩ := hz
  obtain ⟨u1, u2, rfl, ⟨t1, rfl⟩, ⟨t2, rfl⟩⟩ := vals2 r1
  refine zip_begins2 (begins_text x t1) (begins_text y t2) trivial trivial fun h' hz hTI hTO h1 h2 hsz hk => wpAny_pyIter_zip hz ?_
  have I2 : Inv X pins σ H1 { s1 with heap := h' } := I1.kept (t' := s1.toks) hk
  have S : ZipSep2 (s1.heap.objs.size + 4) (s1.heap.objs.size + 2) (s1.heap.objs.size + 3) s1.heap.objs.size (s1.heap.objs.size + 1) [s1.heap.objs.size] [s1.heap.objs.size + 1] := by
    constructor <;> simp <;> omega
  refine ⟨s1.heap.objs.size + 4, [s1.heap.objs.size + 4, s1.heap.objs.size + 2, s1.heap.objs.size + 3, s1.heap.objs.size, s1.heap.objs.size + 1], _, _, H1, rfl, I2, turn_zs (t1 := t1) (t2 := t2) S, ⟨hz, hTI, ⟨_, _, hTO⟩, ⟨_, h1, rfl, rfl⟩, ⟨_, h2, rfl, rfl⟩⟩, fun c hc => ?_, q⟩
  have le : s1.heap.objs.size ≤ c := by
    simp only [List.mem_cons, List.not_mem_nil, or_false] at hc
    rcases hc with rfl | rfl | rfl | rfl | rfl
    · exact Nat.le_add_right _ _
    · exact Nat.le_add_right _ _
    · exact Nat.le_add_right _ _
    · exact Nat.le_refl _
    · exact Nat.le_add_right _ _
  exact I1.fpOk le (I1.hok.fresh le)
def zipS : List Nat → List Nat → List D
  | c :: cs, d :: ds => .tup [.str [c], .str [d]] :: zipS cs ds
  | _, _ => []
theorem zipS_len : ∀ x y : List Nat, (zipS x y).length = min x.length y.length
  | [], y => by simp [zipS]
  | c :: cs, [] => by simp [zipS]
  | c :: cs, d :: ds => by simp [zipS, zipS_len cs ds]
theorem zipS_get : ∀ (x y : List Nat) (i c d : Nat), x[i]? = some c → y[i]? = some d → (zipS x y)[i]? = some (.tup [.str [c], .str [d]])
  | [], _, _, _, _, h, _ => by simp at h
  | _ :: _, [], _, _, _, _, h => by simp at h
  | _ :: _, _ :: _, 0, c, d, h1, h2 => by simp at h1 h2; subst h1 h2; simp [zipS]
  | _ :: cs, _ :: ds, i + 1, c, d, h1, h2 => by
    have := zipS_get cs ds i c d (by simpa using h1) (by simpa using h2)
    simpa [zipS] using this
def itZs : D → D → Option (List D)
  | .str x, .str y => some (zipS x y)
  | _, _ => none
section
variable {X : Cx} {T : Cl} {Wx : WX} {α : Type} {κ : Kind α V} {inj : W → α} {a b c e o : Expr} {es : List Expr} {f g h : M D} {p pos apos : Pos} {i : Nat} {x : Str} {bid ty : String} {as : List Nat}
theorem pi_z {elts : List Expr} {kk : Nat} {tpos : Pos} (hg : Gl X "zip") (hm : X.mg "zip" = none) (ha : PE X a (TF T Wx KD f)) (hb : PE X b (TF T Wx KD g))
    (hs : starEach [a, b] X.env = (false, eval a X.env) :: starEach [b] X.env := by rfl) (hs2 : starEach [b] X.env = (false, eval b X.env) :: starEach [] X.env := by rfl) (hpl : (backTo pos (starEach [b] X.env)).any (·.1) = false := by rfl) :
    PI X (.Tuple elts kk tpos) (.Call (.Name "zip" p) [a, b] [] pos) (TF T Wx (KI none') (itM2 itZs f g)) :=
  piImp (pi_zs hg hm (pa_cons ha (pa_cons hb pa_nil hs2) hs) hs hpl) fun σ H R q => tf22 q fun Z1 H1 v u d e items env1 r1 s1 s2 e1 p => by
    cases d with
    | str z =>
      cases e with
      | str z2 =>
        simp only [itZs] at e1
        cases e1
        obtain ⟨rfl, l1⟩ := s1
        obtain ⟨rfl, l2⟩ := s2
        have l1 : z.length ≤ 16777216 := l1
        refine ⟨_, _, rfl, p Z1 H1 _ ((Adv.refl (O := Owns σ env1) r1.ex).weak fun y hy => hy.elim id fun z => z.elim) r1 ⟨by rw [zipS_len]; show _ ≤ 16777216; omega, fun _ => True, (Itzs ⟨z.toArray⟩ ⟨z2.toArray⟩).yld, ⟨fun i H hi _ => ?_, fun H _ => ?_, fun i H v H' _ _ y => y⟩, fun _ _ _ => trivial, fun i H v H' hi _ _ y => ?_⟩ fun _ z => z.elim⟩
        · rw [zipS_len] at hi
          show i < z.toArray.size ∧ i < z2.toArray.size
          simp
          omega
        · show (zipS z z2).length = min z.toArray.size z2.toArray.size
          rw [zipS_len]
          simp
        · obtain ⟨q, c, d, y1, y2, y3, y4, y5⟩ := y
          exact ⟨_, zipS_get z z2 i c d (by simpa using y4) (by simpa using y5), .inr ⟨q, _, _, y1, y2, y3, rfl, by show 2 ≤ 16777216; decide, ⟨_, _, rfl, ⟨rfl, by show 1 ≤ 16777216; decide⟩, _, _, rfl, ⟨rfl, by show 1 ≤ 16777216; decide⟩, rfl⟩⟩⟩
      | _ => simp only [itZs] at e1; cases e1
    | _ => simp only [itZs] at e1; cases e1
def setI (i : Nat) (k f : M D) : M Fl := f >>= fun y => pk i >>= fun _ => k >>= fun d => ofO (match d with
  | .int j => some j
  | _ => none) >>= fun j => wrE i (fun xs => (ixN xs.length j).map fun n => xs.set n y) Fl.nx
def KU : Kind Fl Unit := ⟨fun _ _ _ _ fl => fl = .nx, fun _ _ _ => False⟩
theorem wrS {op : List D → Option (List D)} {σ : St} {O : Addr → Prop} {Z H : Hp} {env : Env'} {De : Ends} {l : Addr} (r : REnv T Z H σ env) (hO : ∀ a, Owns σ env a → O a) (hv : σ[i]? = some (some (V.ref l))) (q : PostS T Wx as σ O Z H (wrE i op Fl.nx env) De) :
    ∃ xs vs, env[i]? = some (some (.ml xs)) ∧ H l = some (.lst vs) ∧ ShL T Z xs vs ∧ ∃ ys, op xs = some ys ∧ ∀ us, ShL T Z ys us → De.nx σ (upd H l (.lst us)) := by
  have q2 : Post T Wx KU σ O Z H (wrE i op Fl.nx env) (fun _ H' => De.nx σ H') := by
    unfold wrE at q ⊢
    cases e : env[i]? with
    | none => rw [e] at q; exact q.elim
    | some ow =>
      cases ow with
      | none => rw [e] at q; exact q.elim
      | some w =>
        cases w with
        | sh _ => rw [e] at q; exact q.elim
        | mo _ _ _ => rw [e] at q; exact q.elim
        | md _ _ => rw [e] at q; exact q.elim
        | ml xs =>
          rw [e] at q
          simp only at q ⊢
          cases e2 : op xs with
          | none => rw [e2] at q; exact q.elim
          | some ys =>
            rw [e2] at q
            simp only at q ⊢
            split at q
            · rename_i hl
              rw [if_pos hl]
              exact fun Z' H' v a r' _ _ => q Z' H' σ (fun _ _ => rfl) r' (a.weak fun y hy => .inl hy)
            · exact q.elim
  obtain ⟨xs, vs, h1, h2, h3, _, ys, h4, _, h5⟩ := wrE_ok (κ2 := KU) (z := ()) r hO hv q2 (fun _ => ⟨rfl, fun _ => rfl⟩) fun _ z => z
  exact ⟨xs, vs, h1, h2, h3, ys, h4, h5⟩
theorem ofO_postS {β : Type} {o : Option β} {m : β → M Fl} {σ : St} {O : Addr → Prop} {Z H : Hp} {env : Env'} {De : Ends} (p : PostS T Wx as σ O Z H ((ofO o >>= m) env) De) : ∃ x, o = some x ∧ PostS T Wx as σ O Z H (m x env) De := by
  cases o with
  | none => exact p.elim
  | some x => exact ⟨x, rfl, p⟩
theorem pk_postS {m : D → M Fl} {σ : St} {O : Addr → Prop} {Z H : Hp} {env : Env'} {De : Ends} (p : PostS T Wx as σ O Z H ((pk i >>= m) env) De) : ∃ w, env[i]? = some (some w) ∧ PostS T Wx as σ O Z H (m w.view env) De := by
  have p : PostS T Wx as σ O Z H ((pk i env).bind m) De := p
  cases q : env[i]? with
  | none => simp only [pk, q, R.bind] at p; exact p.elim
  | some ow =>
    cases ow with
    | none => simp only [pk, q, R.bind] at p; exact p.elim
    | some w => simp only [pk, q, R.bind] at p; exact ⟨w, rfl, p⟩
theorem bindS_TF {β β' : Type} {κ2 : Kind β β'} {m : M β} {n : β → M Fl} {σ : St} {Z H : Hp} {env : Env'} {De : Ends} {R : β' → Hp → Prop} (r : REnv T Z H σ env) (p : PostS T Wx as σ (Owns σ env) Z H ((m >>= n) env) De)
    (k : ∀ Z1 H1 v d env1, Adv (Owns σ env) Z H (fun a => Owns σ env1 a ∨ κ2.ext v d a) Z1 H1 → REnv T Z1 H1 σ env1 → κ2.rel T Z1 H1 v d → PostS T Wx as σ (fun a => Owns σ env1 a ∨ κ2.ext v d a) Z1 H1 (n d env1) De → R v H1) : TF T Wx κ2 m σ H R := by
  refine ⟨Z, env, r, ?_⟩
  have p : PostS T Wx as σ (Owns σ env) Z H ((m env).bind n) De := p
  cases e : m env with
  | ok d env1 => rw [e] at p; exact fun Z1 H1 v a r1 q _ => k Z1 H1 v d env1 a r1 q (p.later (fun _ _ => rfl) a)
  | exc c ns ds env1 => rw [e] at p; exact fun Z1 H1 cls dd a r1 q => p Z1 H1 σ cls dd (fun _ _ => rfl) a r1 q
  | bad => rw [e] at p; exact p
theorem sd_setI {k : M D} (ho : PE X o (tVar i)) (hk : PE X b (TF T Wx KD k)) (he : PE X e (TF T Wx KD f)) (hs : swapsWithSole [.Subscript o b apos] e pos.line X.env = pure false := by rfl) (hw : swappedStores [.Subscript o b apos] e X.env = pure none := by rfl)
    (h1 : (assignEach [.Subscript o b apos] X.env).map (·.2) = [assign (.Subscript o b apos) X.env] := by rfl)
    (ha : ∀ v, assign (.Subscript o b apos) X.env v = (do
      let ov ← holding [v] (eval o X.env)
      let iv ← holding [v, ov] (eval b X.env)
      standAt apos
      holding [v, ov, iv] (setItem ov iv v)
      release [v, ov, iv] []) := by intro _; rfl) : PS X (.Assign [.Subscript o b apos] e pos) (TSF T Wx as (setI i k f)) :=
  psImp (ps_asg he (pg_sub ho hk set_list ha) hs hw h1) fun De σ H q => TSF.bind (κ := KD) q fun Z1 H1 v d env1 r1 s1 _ p0 => by
    obtain ⟨w, ew, p1⟩ := pk_postS (p0.noext r1.ex)
    obtain ⟨u, hu, hw'⟩ := r1.at_ i w ew
    refine ⟨u, hu, bindS_TF r1 p1 fun Z2 H2 ki kd env2 a2 r2 s2 p2 => ?_⟩
    obtain ⟨j, ej, p3⟩ := ofO_postS p2
    cases kd <;> simp only at ej <;> cases ej
    obtain rfl := s2
    obtain ⟨w3, _⟩ : ∃ w, env2[i]? = some (some w) := by
      unfold wrE at p3
      cases e3 : env2[i]? with
      | none => rw [e3] at p3; exact p3.elim
      | some ow =>
        cases ow with
        | none => rw [e3] at p3; exact p3.elim
        | some w => exact ⟨w, rfl⟩
    obtain ⟨l, rfl⟩ : ∃ l, u = .ref l := by
      unfold wrE at p3
      cases e3 : env2[i]? with
      | none => rw [e3] at p3; exact p3.elim
      | some ow =>
        cases ow with
        | none => rw [e3] at p3; exact p3.elim
        | some w =>
          obtain ⟨u', hu', hw2⟩ := r2.at_ i w e3
          rw [hu] at hu'; cases hu'
          cases w with
          | sh _ => rw [e3] at p3; exact p3.elim
          | mo _ _ _ => rw [e3] at p3; exact p3.elim
          | md _ _ => rw [e3] at p3; exact p3.elim
          | ml _ => obtain ⟨l, _, e, _⟩ := hw2; exact ⟨l, e⟩
    obtain ⟨xs, vs, _, h2, h3, ys, h4, h5⟩ := wrS r2 (fun _ h => .inl h) hu p3
    cases e4 : ixN xs.length j with
    | none => rw [e4] at h4; cases h4
    | some n =>
      rw [e4] at h4
      cases h4
      exact ⟨l, vs, j, n, rfl, rfl, h2, by rw [h3.length]; exact e4, h5 _ (ShL.set (Sh.mono a2.zz d v s1) n h3)⟩
/-- i[k] op= e of a list of numbers -/
theorem get_list : PGet X (rIxL X.K) := by
  intro pins s σ H o' i' ov iv Q I ro ri h
  obtain ⟨l, xs, j, z, rfl, rfl, hq, he, q⟩ := h
  cases ro
  obtain ⟨t, rfl⟩ := ri
  obtain ⟨its, r, pl, hz⟩ := I.list hq
  have hn := line63
  have hl := r.length
  have at1 := he
  unfold atI at at1
  cases e : ixN xs.length j with
  | none => rw [e] at at1; cases at1
  | some n =>
    rw [e] at at1
    have at2 : xs[n]? = some z := by simpa using at1
    obtain ⟨w, ew, rw'⟩ := r.get at2
    have fin : EP X pins σ Q w s := ⟨z, H, I, rw', q⟩
    unfold ixN at e
    split at e
    · rename_i h0
      split at e
      · rename_i h1
        cases e
        exact wpAny_getItem_list pl.isList h0 (by omega) (by simpa using ew) fin
      · cases e
    · rename_i h0
      split at e
      · rename_i h1
        cases e
        exact wpAny_getItem_list_neg pl.isList (by omega) (by rw [List.size_toArray]; omega) (by omega) (by rw [List.size_toArray, ← hl]; simpa using ew) fin
      · cases e
end
end Wc
namespace Wc
open PySem L2
section
variable {X : Cx} {T : Cl} {Wx : WX} {α : Type} {κ : Kind α V} {inj : W → α} {a b c e o : Expr} {es : List Expr} {f g h : M D} {p pos apos : Pos} {i : Nat} {x : Str} {bid ty : String} {as : List Nat}
def iaddD : D → D → Option W
  | .int i, .int j => some (.sh (.int (i + j)))
  | .str s, .str t => if s.length + t.length ≤ lim then some (.sh (.str (s ++ t))) else none
  | _, _ => none
def rIadd : R2 := fun x y H Q => rI0 (fun i j => .int (i + j)) x y H Q ∨ ∃ i j, x = .str i ∧ y = .str j ∧ i.length + j.length ≤ sizeLine ∧ Q (.str (i ++ j)) H
theorem iop_iadd : OpR X (inplaceOp .Add) rIadd := iop_add.or iop_add_str
theorem sIadd : S2 T rIadd iaddD := by
  intro Z H σ env v u d e w Q r hd he ho n
  cases d <;> cases e <;> try (simp [iaddD] at ho; done)
  · rename_i i j
    simp [iaddD] at ho; subst ho
    obtain rfl := hd; obtain rfl := he
    exact .inl ⟨i, j, rfl, rfl, n.sc r rfl⟩
  · rename_i s t
    simp only [iaddD] at ho
    split at ho
    · rename_i hl
      cases ho
      obtain ⟨rfl, _⟩ := hd; obtain ⟨rfl, _⟩ := he
      refine .inr ⟨_, _, rfl, rfl, by rw [str_len, str_len]; exact hl, ?_⟩
      rw [str_app]
      exact n.sc r ⟨rfl, by rw [List.length_append]; exact hl⟩
    · cases ho
theorem sd_aug {op : Operator} {r : R2} {o : D → D → Option W} {pos' : Pos} (hN : X.N.Nodup) (hi : X.N[i]? = some x) (hx : Loc X.env.scope x) (ha : i ∈ as) (ho : OpR X (inplaceOp op) r) (S : S2 T r o) (he : PE X e (TF T Wx KV g))
    (hf : X.fn x = true ∨ X.env.scope.names.lookup x = some .local := by first | exact .inl rfl | exact .inr rfl | assumption) : PS X (.AugAssign (.Name x pos') op e pos) (TSF T Wx as (asgM i (m2n id o i g))) :=
  psImp (ps_aug hN hi hx he (fun pins s σ H x y v u Q I rx ry q => ho pins s σ H x y v u Q I rx ry q) hf) fun De σ H q => tf2n (κ := KW) finW S (asgTF ha q)
def ixLi : D → Int → Option Int
  | .lst xs, j => match atI xs j with
    | some (.int n) => some n
    | _ => none
  | _, _ => none
def augI (i : Nat) (k f : M D) : M Fl := pk i >>= fun _ => k >>= fun d => ofO (match d with
  | .int j => some j
  | _ => none) >>= fun j => pk i >>= fun xs => ofO (ixLi xs j) >>= fun n => f >>= fun y => ofO (match y with
  | .int m => some m
  | _ => none) >>= fun m => wrE i (fun xs => (ixN xs.length j).map fun q => xs.set q (.int (n + m))) Fl.nx
theorem sd_augI {k : M D} (ho : PE X o (tVar i)) (hk : PE X b (TF T Wx KD k)) (he : PE X e (TF T Wx KD f))
    (ha : ∀ ov iv new, augStore b ov iv new = (do holding [new, ov, iv] (setItem ov iv new); release [new, ov, iv] []; pure .next) := by intros; rfl) : PS X (.AugAssign (.Subscript o b apos) .Add e pos) (TSF T Wx as (augI i k f)) :=
  psImp (ps_augS ho hk get_list he ip_add set_list ha) fun De σ H ⟨Z, env, r, p⟩ => by
    obtain ⟨w, ew, p1⟩ := pk_postS p
    obtain ⟨u, hu, hw'⟩ := r.at_ i w ew
    refine ⟨u, hu, bindS_TF r p1 fun Z2 H2 ki kd env2 a2 r2 s2 p2 => ?_⟩
    obtain ⟨j, ej, p3⟩ := ofO_postS p2
    cases kd <;> simp only at ej <;> cases ej
    obtain rfl := s2
    obtain ⟨w2, ew2, p4⟩ := pk_postS (p3.noext r2.ex)
    obtain ⟨n, en, p5⟩ := ofO_postS p4
    obtain ⟨u2, hu2, hw2⟩ := r2.at_ i w2 ew2
    rw [hu] at hu2; cases hu2
    have hv2 := hw2.vw r2.ex
    cases q : w2.view with
    | lst xs =>
      rw [q] at en hv2
      obtain ⟨l, vs, rfl, hl, _, s⟩ := hv2
      simp only [ixLi] at en
      cases q2 : atI xs j with
      | none => rw [q2] at en; cases en
      | some y =>
        rw [q2] at en
        cases y <;> simp only at en <;> cases en
        obtain ⟨v, e1, e2⟩ := atI_sh s q2
        obtain rfl := e2
        refine ⟨l, vs, j, _, rfl, rfl, SqL.of hl, e1, bindS_TF r2 p5 fun Z3 H3 yv yd env3 a3 r3 s3 p6 => ?_⟩
        obtain ⟨m, em, p7⟩ := ofO_postS p6
        cases yd <;> simp only at em <;> cases em
        obtain rfl := s3
        obtain ⟨ys, us, _, h2, h3, zs, h4, h5⟩ := wrS r3 (fun _ h => .inl h) hu p7
        cases e4 : ixN ys.length j with
        | none => rw [e4] at h4; cases h4
        | some n =>
          rw [e4] at h4
          cases h4
          exact ⟨_, _, rfl, rfl, l, us, j, n, rfl, rfl, h2, by rw [h3.length]; exact e4, h5 _ (ShL.set (d := .int _) (v := .int _) (show Sh T Z3 (.int _) (.int _) from rfl) n h3)⟩
    | non => rw [q] at en; simp only [ixLi] at en; cases en
    | bl _ => rw [q] at en; simp only [ixLi] at en; cases en
    | int _ => rw [q] at en; simp only [ixLi] at en; cases en
    | str _ => rw [q] at en; simp only [ixLi] at en; cases en
    | tup _ => rw [q] at en; simp only [ixLi] at en; cases en
    | dic _ _ => rw [q] at en; simp only [ixLi] at en; cases en
    | obj _ _ _ => rw [q] at en; simp only [ixLi] at en; cases en
    | scr _ => rw [q] at en; simp only [ixLi] at en; cases en
    | exn _ _ _ => rw [q] at en; simp only [ixLi] at en; cases en
    | fnv _ => rw [q] at en; simp only [ixLi] at en; cases en
def mt2 (i : Nat) (op : List D → D → D → Option (List D)) (f g : M D) : M D := pk i >>= fun d => ofO (isMl d) >>= fun _ => f >>= fun x => g >>= fun y => wrE i (fun xs => op xs x y) .non
def look (n : Str) : List Str → List D → Option D
  | m :: ns, d :: ds => if n = m then some d else look n ns ds
  | _, _ => none
def fldD (c : Nat) (n : Str) : D → Option W
  | .obj c' ns ds => if c = c' then (look n ns ds).map .sh else none
  | _ => none
theorem look_ok {Z : Hp} {n : Str} : ∀ {fv : List (Str × V)} {ds : List D} {d : D}, ShL T Z ds (fv.map (·.2)) → look n (fv.map (·.1)) ds = some d → ∃ v, fv.lookup n = some v ∧ Sh T Z d v
  | [], ds, d, _, e => by simp [look] at e
  | (m, u) :: fv, [], d, s, e => by simp [look] at e
  | (m, u) :: fv, d' :: ds, d, ⟨v, r, e1, e2, e3⟩, e => by
    have e1 : u = v ∧ fv.map (·.2) = r := by simpa using e1
    obtain ⟨rfl, rfl⟩ := e1
    simp only [List.map_cons, look] at e
    rw [List.lookup_cons]
    split at e
    · rename_i h
      cases e
      subst h
      exact ⟨u, by simp, e2⟩
    · rename_i h
      rw [beq_eq_false_iff_ne.mpr h]
      exact look_ok e3 e
theorem sFld_ {c : Nat} {n : Str} (cl : Cls X.K (T.ca c)) (na : NoAttr X.K (T.ca c) n) : S1 T (fun v H Q => ∃ a C dx fs v', v = .ref a ∧ H a = some (.ins C dx fs) ∧ Cls X.K C ∧ NoAttr X.K C n ∧ fs.lookup n = some v' ∧ Q v' H) (fldD c n) := by
  intro Z H σ env v d w Q r hd ho nw
  cases d <;> simp only [fldD] at ho <;> try (cases ho; done)
  rename_i c' ns ds
  split at ho
  · rename_i hc
    subst hc
    cases q : look n ns ds with
    | none => rw [q] at ho; cases ho
    | some y =>
      rw [q] at ho; cases ho
      obtain ⟨a, dx, fv, rfl, h1, rfl, s⟩ := hd
      obtain ⟨u, h2, h3⟩ := look_ok s q
      exact ⟨a, _, dx, fv, u, rfl, h1, cl, na, h2, nw.sc r h3⟩
  · cases ho
theorem pd_fld {c : Nat} {n : Str} (F : Fin κ inj) (cl : Cls X.K (T.ca c)) (na : NoAttr X.K (T.ca c) n) (he : PE X e (TF T Wx KV f)) (hb : attributeBase e n X.env (eval e X.env) = eval e X.env := by rfl) : PE X (.Attribute e n pos) (TF T Wx κ (m1 inj (fldD c n) f)) :=
  peImp (pe_fld he hb) fun _ _ _ q => tf1 F (sFld_ cl na) q
def putN (n : Str) : List Str → List Str
  | [] => [n]
  | m :: ns => if m = n then n :: ns else m :: putN n ns
def putD (n : Str) (y : D) : List Str → List D → List D
  | m :: ns, d :: ds => if m = n then y :: ds else d :: putD n y ns ds
  | _, _ => [y]
theorem put_ok {Z : Hp} {n : Str} {y : D} {v : V} (hy : Sh T Z y v) : ∀ {fv : List (Str × V)} {ds : List D}, ShL T Z ds (fv.map (·.2)) → (putF n v fv).map (·.1) = putN n (fv.map (·.1)) ∧ ShL T Z (putD n y (fv.map (·.1)) ds) ((putF n v fv).map (·.2))
  | [], ds, s => by
    have hds : ds = [] := by
      cases ds with
      | nil => rfl
      | cons d ds => obtain ⟨_, _, e, _⟩ := s; cases e
    subst hds
    exact ⟨rfl, ShL.one hy⟩
  | (m, u) :: fv, [], s => by
    have : (u :: fv.map (·.2)) = ([] : List V) := s
    cases this
  | (m, u) :: fv, d :: ds, ⟨v', r, e1, e2, e3⟩ => by
    have e1 : u = v' ∧ fv.map (·.2) = r := by simpa using e1
    obtain ⟨rfl, rfl⟩ := e1
    obtain ⟨i1, i2⟩ := put_ok hy e3
    simp only [putF, putN, putD, List.map_cons]
    split
    · rename_i h
      subst h
      exact ⟨rfl, ⟨v, _, rfl, hy, e3⟩⟩
    · exact ⟨by rw [List.map_cons, i1], ⟨u, _, rfl, e2, i2⟩⟩
def setF (i c : Nat) (n : Str) (f : M D) : M Fl := f >>= fun y env => match env[i]? with
  | some (some (.mo c' ns ds)) => if c = c' ∧ ns.length < 1000 then .ok .nx (env.set i (some (.mo c (putN n ns) (putD n y ns ds)))) else .bad
  | _ => .bad
theorem sd_setF {c : Nat} {n : Str} {p' : Pos} (cl : Cls X.K (T.ca c)) (na : NoAttr X.K (T.ca c) n) (ho : PE X o (tVar i)) (he : PE X e (TF T Wx KD f)) (hs : swapsWith e (some (.Attribute o n p')) pos.line X.env = pure false := by rfl) : PS X (.Assign [.Attribute o n p'] e pos) (TSF T Wx as (setF i c n f)) :=
  psImp (ps_fld ho he hs) fun De σ H q => TSF.bind (κ := KD) q fun Z1 H1 v d env1 r1 s1 _ p0 => by
    have p := p0.noext r1.ex
    cases e1 : env1[i]? with
    | none => rw [e1] at p; exact p.elim
    | some ow =>
      cases ow with
      | none => rw [e1] at p; exact p.elim
      | some w =>
        cases w with
        | sh _ => rw [e1] at p; exact p.elim
        | ml _ => rw [e1] at p; exact p.elim
        | md _ _ => rw [e1] at p; exact p.elim
        | mo c' ns ds =>
          rw [e1] at p
          simp only at p
          split at p
          · rename_i hc
            obtain ⟨rfl, hl⟩ := hc
            obtain ⟨u, hu, l, dx, fv, rfl, zl, hl0, rfl, s⟩ := r1.at_ i _ e1
            obtain ⟨k1, k2⟩ := put_ok (n := n) s1 s
            refine ⟨_, hu, l, _, dx, fv, rfl, hl0, cl, na, by simpa using hl, ?_⟩
            refine p Z1 _ σ (fun _ _ => rfl) (r1.put e1 hu (Adv.write (O := fun p => V.ref l = .ref p ∧ W.own (.mo c (fv.map (·.1)) ds) = true) r1.ex ⟨rfl, rfl⟩ zl) fun u' eu => ?_) ((Adv.write (O := Owns σ env1) r1.ex ⟨i, _, e1, rfl, hu⟩ zl).weak fun q z => ?_)
            · cases eu
              exact ⟨⟨l, dx, putF n v fv, rfl, zl, upd_same, k1, k2⟩, fun _ => rfl⟩
            · rcases z.set_sub with z | ⟨u', e2, e3, e4⟩
              · exact z
              · exact ⟨i, _, e1, rfl, e4⟩
          · exact p.elim
def selD (k1 k2 : List Nat) (n1 n2 : Int) : D → Option W
  | .str s => if s = k1 then some (.sh (.int n1)) else if s = k2 then some (.sh (.int n2)) else none
  | _ => none
theorem pd_sel {k1 k2 : List Nat} {n1 n2 : Int} {z1 z2 : Str} {j1 j2 j3 j4 : Nat} {q1 q2 q3 q4 dp : Pos} (F : Fin κ inj) (hu : X.A.units + 1 < cLine) (h1 : z1 = ⟨k1.toArray⟩) (h2 : z2 = ⟨k2.toArray⟩) (hne : k1 ≠ k2) (he : PE X e (TF T Wx KV f)) (hs : NoSl e) :
    PE X (.Subscript (.Dict [some (.Constant (.str z1) j1 q1), some (.Constant (.str z2) j2 q2)] [.Constant (.int n1) j3 q3, .Constant (.int n2) j4 q4] dp) e pos) (TF T Wx κ (m1 inj (selD k1 k2 n1 n2) f)) := by
  subst h1 h2
  refine peImp (pe_dget hu (pe_disp (pps_cons pe_str pe_int (pps_cons pe_str pe_int pps_nil)) rfl rfl (fun z => by cases z) (show 2 ≤ 15 by decide)) he hs) fun σ H Q q => ?_
  obtain ⟨Z, env, r0, p⟩ := q
  intro a ha
  refine ⟨upd_same, [(.inr ⟨k1.toArray⟩, .int n1), (.inr ⟨k2.toArray⟩, .int n2)], rfl, (show 2 ≤ 15 by decide), ?_⟩
  rw [upd_upd]
  have vl : ∀ k : Key, valV (mergeK [] [(.inr ⟨k1.toArray⟩, .int n1), (.inr ⟨k2.toArray⟩, .int n2)]) k = if k = .inr ⟨k2.toArray⟩ then some (.int n2) else if k = .inr ⟨k1.toArray⟩ then some (.int n1) else none := fun k => by
    simp only [mergeK, List.foldl_cons, List.foldl_nil]
    rw [valV_put, valV_put, valV_nil]
  generalize mergeK [] [(.inr ⟨k1.toArray⟩, .int n1), (.inr ⟨k2.toArray⟩, .int n2)] = kvs at vl
  have r1 : REnv T (upd Z a (.dK kvs)) (upd H a (.dK kvs)) σ env := r0.new ha
  refine ⟨_, env, r1, ?_⟩
  have p : Post T Wx κ σ (Owns σ env) Z H ((f env).bind fun x => ofO ((selD k1 k2 n1 n2 x).map inj)) Q := p
  have p := p.later (Adv.new (o := .dK kvs) r0.ex ha)
  cases ef : f env with
  | exc _ _ _ _ => rw [ef] at p; exact p
  | bad => rw [ef] at p; exact p
  | ok d env1 =>
    rw [ef] at p
    intro Z1 H1 v ad r2 s2 hx; clear hx
    obtain ⟨w, ew, n⟩ := Post.ofO F (p.later ad) fun _ h => .inl h
    have za : H1 a = some (.dK kvs) := ad.zh _ _ (ad.zz _ _ upd_same)
    cases d <;> simp only [selD] at ew <;> try (cases ew; done)
    rename_i s
    obtain ⟨rfl, _⟩ := s2
    have inj2 : ∀ x y : List Nat, (⟨x.toArray⟩ : Str) = ⟨y.toArray⟩ → x = y := fun x y e => by
      have := congrArg (fun z : Str => z.1.toList) e
      simpa using this
    have g := DGet.k (k := .inr ⟨s.toArray⟩) za
    rw [vl] at g
    split at ew
    · rename_i e1
      subst e1
      cases ew
      rw [if_neg (fun z => hne (inj2 _ _ (Sum.inr.inj z))), if_pos rfl] at g
      exact ⟨a, _, rfl, g, n.sc r2 rfl⟩
    · rename_i e1
      split at ew
      · rename_i e2
        subst e2
        cases ew
        rw [if_pos rfl] at g
        exact ⟨a, _, rfl, g, n.sc r2 rfl⟩
      · cases ew
end
end Wc
namespace Wc
open PySem L2
def lockW (i : Nat) (w : W) : R W → R W
  | .ok u e => .ok u (e.set i (some w))
  | .exc c ns ds e => .exc c ns ds (e.set i (some w))
  | .bad => .bad
def lcN (i : Nat) (own : List Nat) (t : Tg) (b : M Bool) (f : M D) : M W := fun env => match env[i]? with
  | some (some w) => match itL w.view with
    | some xs => lockW i w (lcM own t b f xs (env.set i none))
    | none => .bad
  | _ => .bad
section
variable {X : Cx} {T : Cl} {Wx : WX} {tg : Expr} {t : Tg} {g : TG} {b : M Bool} {f : M D} {tt : TT} {te : TE}
theorem lockW_post {σ : St} {Z H : Hp} {env : Env'} {i : Nat} {w : W} {r0 : R W} {Q : VK} (r : REnv T Z H σ env) (ei : env[i]? = some (some w)) (p : Post T Wx KW σ (Owns σ env) Z H (lockW i w r0) Q) : Post T Wx KW σ (Owns σ (env.set i none)) Z H r0 Q := by
  cases r0 with
  | ok u env' =>
    intro Z' H' v a r' k x
    obtain ⟨b1, b2, b3⟩ := unlock (as := []) (P := KW.ext v u) (by simp) r ei (fun _ _ => rfl) a r'
    refine p Z' H' v b1 b2 k fun y hy z => ?_
    rcases b3 y z with z | z
    · exact x y hy z
    · obtain ⟨v0, hv0, hw0⟩ := r.at_ i w ei
      rw [z.2] at hv0; cases hv0
      rcases a.ow y (.inr hy) with g | g
      · exact r.hidden ei z.1 z.2 g
      · obtain ⟨_, o, eo⟩ := hw0.there z.1
        rw [g] at eo; cases eo
  | exc c ns ds env' =>
    intro Z' H' cls dd a r' k
    obtain ⟨b1, b2, _⟩ := unlock (as := []) (P := fun _ => False) (by simp) r ei (fun _ _ => rfl) (a.weak fun x z => z.elim id fun y => y.elim) r'
    exact p Z' H' cls dd (b1.weak fun x z => .inl z) b2 k
  | bad => exact p
variable {elt iter : Expr} {ifs : List Expr} {scope : Scope} {own : List (Str × Nat)} {pos : Pos} {it : M (List D)}
theorem pd_lcN {i : Nat} (hc : X.calm = true) (hN : X.N.Nodup) (hi : PE X iter (tVar i)) (ok : BlkOk X.N X.env.scope scope own)
    (hg : ∀ (s : Shared) (H : Hp) (C : Addr) (cl : List (Str × Addr)) (fp : List Addr), GT (X.blk s H scope (compEnvC scope cl C X.env) fp) T (own.map (·.2)) tg t g)
    (ht : ∀ (s : Shared) (H : Hp) (C : Addr) (cl : List (Str × Addr)) (fp : List Addr), PTs (X.blk s H scope (compEnvC scope cl C X.env) fp) ifs (TF T W0 KB b))
    (he : ∀ (s : Shared) (H : Hp) (C : Addr) (cl : List (Str × Addr)) (fp : List Addr), PE (X.blk s H scope (compEnvC scope cl C X.env) fp) elt (TF T W0 KD f)) (hs : ∀ x, foldedSetIterable iter X.env x = pure x := by intro _; rfl) :
    PE X (.ListComp elt [⟨tg, iter, ifs, 0⟩] scope pos) (TF T Wx KW (lcN i (own.map (·.2)) t b f)) :=
  peImp (pe_lc hc hN (pi_list hi) ok (fun s H C cl fp => (hg s H C cl fp).1) ht he hs) fun σ H Q ⟨Z, env, r, p⟩ => by
    unfold lcN at p
    cases ei : env[i]? with
    | none => rw [ei] at p; exact p.elim
    | some ow =>
      cases ow with
      | none => rw [ei] at p; exact p.elim
      | some w =>
        rw [ei] at p
        simp only at p
        cases ex : itL w.view with
        | none => rw [ex] at p; exact p.elim
        | some xs =>
          rw [ex] at p
          simp only at p
          obtain ⟨v, hv, hw⟩ := r.at_ i w ei
          obtain ⟨a, vs, rfl, ha, hl, s, zo⟩ := itL_own ex r.ex hw
          refine ⟨_, hv, a, rfl, ⟨vs, SqL.of ha⟩, ?_⟩
          have lk : ∀ (p : Addr) (o : HO), (fun b => if b = a ∧ w.own = true then some (HO.lst vs) else none : Hp) p = some o → p = a ∧ w.own = true ∧ o = .lst vs := fun p o h => by
            simp only at h
            split at h
            · rename_i hc; cases h; exact ⟨hc.1, hc.2, rfl⟩
            · cases h
          intro D hD
          obtain ⟨p1, p2⟩ := lcM_post (fun _ h => h) (lockW_post r ei p)
          refine lc_core' (Lk := fun b => if b = a ∧ w.own = true then some (HO.lst vs) else none) (hg X.s_0 H 0 [] []).2 (fun _ _ _ z => z) (fun _ _ _ z => z) (gi_list X.K (zo.imp id fun ow => by simp [ow]) hl s) (r.hide (i := i)) (fun p o h => ?_) (fun p o h z => ?_) p1 p2 D hD
          · obtain ⟨rfl, _, rfl⟩ := lk p o h
            exact ha
          · obtain ⟨rfl, ow, rfl⟩ := lk p o h
            exact r.hidden ei ow hv z
end
structure Mk (T : Cl) (O0 : Addr → Prop) (Z0 H0 : Hp) (D : Addr) (σ : St) (env : Env') (acc : List Wc.D) (Z H : Hp) : Prop where
  r : REnv T Z H σ env
  a : Adv O0 Z0 H0 (fun x => Owns σ env x ∨ x = D) Z H
  hD : ∃ accV, H D = some (.lst accV) ∧ ShL T Z acc accV
  zD : Z D = none
  nD : ¬ Owns σ env D
section
variable {T : Cl} {O0 : Addr → Prop} {Z0 H0 : Hp} {D : Addr} {σ σ' : St} {env env' : Env'} {acc : List Wc.D} {Z H Z' H' : Hp}
theorem Mk.new {p : Addr} {o : HO} (m : Mk T O0 Z0 H0 D σ env acc Z H) (hp : H p = none) : Mk T O0 Z0 H0 D σ env acc (upd Z p o) (upd H p o) := by
  obtain ⟨accV, h1, h2⟩ := m.hD
  have ne : D ≠ p := fun e => by rw [← e, h1] at hp; cases hp
  have zp : Z p = none := Evl.fresh_back m.r.ex hp
  exact ⟨m.r.new hp, m.a.trans (Adv.new m.r.ex hp), ⟨accV, by rw [upd_ne ne]; exact h1, ShL.mono (Evl.Ex.new zp) _ _ h2⟩, by rw [upd_ne ne]; exact m.zD, m.nD⟩
theorem Mk.sub (m : Mk T O0 Z0 H0 D σ env acc Z H) (r : REnv T Z H σ' env') (h : ∀ a, Owns σ' env' a → Owns σ env a) : Mk T O0 Z0 H0 D σ' env' acc Z H :=
  ⟨r, m.a.weak fun _ z => z.imp (h _) id, m.hD, m.zD, fun z => m.nD (h _ z)⟩
theorem Mk.run (m : Mk T O0 Z0 H0 D σ env acc Z H) (a : Adv (Owns σ env) Z H (Owns σ' env') Z' H') (r : REnv T Z' H' σ' env') : Mk T O0 Z0 H0 D σ' env' acc Z' H' := by
  obtain ⟨accV, h1, h2⟩ := m.hD
  refine ⟨r, m.a.trans ((a.more fun x z => .inl z).wid (P := fun x => x = D) fun x z => .inr z), ⟨accV, a.fr D _ h1 m.nD, ShL.mono a.zz _ _ h2⟩, ?_, fun z => ?_⟩
  · cases q : Z' D with
    | none => rfl
    | some u =>
      rcases a.nz D u q with g | g | g
      · rw [m.zD] at g; cases g
      · exact absurd g m.nD
      · rw [h1] at g; cases g
  · rcases a.ow D z with q | q
    · exact m.nD q
    · rw [h1] at q; cases q
theorem Mk.app {y : Wc.D} {v : V} {accV : List V} (m : Mk T O0 Z0 H0 D σ env acc Z H) (h1 : H D = some (.lst accV)) (h2 : ShL T Z acc accV) (s : Sh T Z y v) : Mk T O0 Z0 H0 D σ env (acc ++ [y]) Z (upd H D (.lst (accV ++ [v]))) := by
  have w : Adv (fun x => x = D) Z H (fun x => x = D) Z (upd H D (.lst (accV ++ [v]))) := Adv.write m.r.ex rfl m.zD
  refine ⟨m.r.step w fun p hp e => m.nD (by rw [← e]; exact hp), m.a.trans (Adv.write m.r.ex (.inr rfl) m.zD), ⟨_, upd_same, h2.append (ShL.one s)⟩, m.zD, m.nD⟩
theorem Mk.wip (m : Mk T O0 Z0 H0 D σ env acc Z H) (vs : List Nat) : Mk T O0 Z0 H0 D (wipe σ vs) (wipE env vs) acc Z H :=
  m.sub (m.r.wip vs).1 fun a z => ((m.r.wip vs).2 a z).1
end
def oneA (b : M Bool) (f : M D) : M (List D) := b >>= fun c => if c = true then (f >>= fun y => M.pure [y]) else M.pure []
def lcGoA (own : List Nat) (t : Tg) (A : M (List D)) : List D → M (List D)
  | [], env => .ok [] (wipE env own)
  | d :: ds, env => match stT t d (wipE env own) with
    | none => .bad
    | some e1 => match A e1 with
      | .ok ys e2 => (match lcGoA own t A ds e2 with
        | .ok zs e3 => .ok (ys ++ zs) e3
        | _ => .bad)
      | _ => .bad
theorem lcGoA_wip {own : List Nat} {t : Tg} {A : M (List D)} : ∀ {items : List D} {env : Env'} {xs : List D} {e : Env'}, lcGoA own t A items env = .ok xs e → ∃ e', e = wipE e' own
  | [], env, xs, e, h => by simp only [lcGoA] at h; cases h; exact ⟨_, rfl⟩
  | d :: ds, env, xs, e, h => by
    simp only [lcGoA] at h
    split at h
    · cases h
    · split at h
      · split at h
        · rename_i h2
          cases h
          exact lcGoA_wip h2
        · cases h
      · cases h
def inA (b : M Bool) (vs : List Nat) (it : M (List D)) (t : Tg) (A : M (List D)) : M (List D) := b >>= fun c => if c = true then (it >>= lcGoA vs t A) else M.pure []
end Wc
namespace Wc
open PySem L2
def keyP : Key → PyData
  | .inl i => .int i
  | .inr x => .str x
mutual
def toP : D → Option PyData
  | .non => some .none
  | .bl b => some (.bool b)
  | .int i => some (.int i)
  | .str s => some (.str ⟨s.toArray⟩)
  | .tup xs => (toPs xs).map .tuple
  | .lst xs => (toPs xs).map .list
  | .dic ks xs => (toPs xs).map fun ps => .dict ((ks.map keyP).zip ps)
  | _ => none
def toPs : List D → Option (List PyData)
  | [] => some []
  | d :: ds => match toP d, toPs ds with
    | some p, some ps => some (p :: ps)
    | _, _ => none
end
theorem toPs_len : ∀ {ds : List D} {ps : List PyData}, toPs ds = some ps → ps.length = ds.length
  | [], ps, e => by simp only [toPs] at e; cases e; rfl
  | d :: ds, ps, e => by
    simp only [toPs] at e
    cases e1 : toP d with
    | none => rw [e1] at e; cases e
    | some p =>
      cases e2 : toPs ds with
      | none => rw [e1, e2] at e; cases e
      | some qs => rw [e1, e2] at e; cases e; simp [toPs_len e2]
theorem zip_fst {α β : Type} : ∀ {xs : List α} {ys : List β}, xs.length = ys.length → (xs.zip ys).map (·.1) = xs
  | [], [], _ => rfl
  | x :: xs, y :: ys, h => by simp [zip_fst (xs := xs) (ys := ys) (by simpa using h)]
  | [], _ :: _, h => by simp at h
  | _ :: _, [], h => by simp at h
theorem zip_snd {α β : Type} : ∀ {xs : List α} {ys : List β}, xs.length = ys.length → (xs.zip ys).map (·.2) = ys
  | [], [], _ => rfl
  | x :: xs, y :: ys, h => by simp [zip_snd (xs := xs) (ys := ys) (by simpa using h)]
  | [], _ :: _, h => by simp at h
  | _ :: _, [], h => by simp at h
theorem keys_read {P : Program} {w : World} {h : Heap} : ∀ {es : List DictEntry} {va : List (Key × Value)}, Pairs (mixKind P w) es va → ReadsAll h (es.map (·.key)) (va.map fun q => keyP q.1) [] ∧ es.map (·.val) = va.map (·.2)
  | [], _, .nil => ⟨.nil, rfl⟩
  | e :: es, (k, v) :: va, .cons h1 h2 h3 => by
    obtain ⟨q1, q2⟩ := keys_read (h := h) h3
    refine ⟨?_, by simp only [List.map_cons, q2, h2]⟩
    rcases keyIs_shape (show keyIs k e.key = true from h1) with ⟨i, t, rfl, e2⟩ | ⟨x, t, rfl, e2⟩
    · simp only [List.map_cons, e2]
      exact .cons (as := []) (bs := []) (Reads.int i t) q1
    · simp only [List.map_cons, e2]
      exact .cons (as := []) (bs := []) (Reads.str x t) q1
theorem kv_fst {kv : List (Key × V)} {va : List (Key × Value)} (h : L2.KV kv va) : va.map (fun q => keyP q.1) = (kv.map (·.1)).map keyP := by
  unfold L2.KV at h
  induction h with
  | nil => rfl
  | cons h _ ih => simp only [List.map_cons, ih, h.1]
theorem kv_snd {kv : List (Key × V)} {va : List (Key × Value)} (h : L2.KV kv va) : Vals (kv.map (·.2)) (va.map (·.2)) := by
  unfold L2.KV at h
  induction h with
  | nil => exact .nil
  | cons h _ ih => exact .cons h.2 ih
section
variable {X : Cx} {T : Cl} {pins : List (Addr × Obj)} {σ : St} {H : Hp} {s : Shared}
theorem sh_dicO (I : Inv X pins σ H s) {ks : List Key} {ds : List D} {v : V} {u : Value} (h : Sh T H (.dic ks ds) v) (r : RelV v u) : ∃ a o es ep us vs, u = .ref a ∧ s.heap.get? a = some o ∧ o.cls = .type "dict" ∧ o.data = .dict es ep ∧ (a == sysModules) = false ∧
    ReadsAll s.heap (es.toList.map (·.key)) (ks.map keyP) [] ∧ es.toList.map (·.val) = us ∧ Vals vs us ∧ ShL T H ds vs ∧ ks.length = ds.length := by
  obtain ⟨a, kv, rfl, h1, h2, h3⟩ := h
  obtain rfl : u = Value.ref a := r
  obtain ⟨_, ya, va, ra, da⟩ := (show ObjOk X.prog X.w H s.heap a (.dK kv) from h1.ok I.hok)
  obtain ⟨o, es, ep, ho, hx, hd, hk, hp, hn⟩ := da
  obtain ⟨q1, q2⟩ := keys_read (h := s.heap) hp
  rw [kv_fst ra, h2] at q1
  have hc : o.cls = .type "dict" := (show s.TypeIs (.ref a) "dict" from ⟨o, ho, hx.1⟩).elim fun o' q => by obtain ⟨q1, q2⟩ := q; rw [ho] at q1; cases q1; exact q2
  exact ⟨a, o, es, ep, _, _, rfl, ho, hc, hd, ya, q1, q2, kv_snd ra, h3, by rw [← h2, List.length_map, ← h3.length, List.length_map]⟩
mutual
theorem shRd (I : Inv X pins σ H s) : ∀ (d : D) (v : V) (u : Value) (p : PyData), Sh T H d v → RelV v u → toP d = some p → ∃ as, Reads s.heap u p as
  | .non, v, u, p, h, r, e => by simp only [toP] at e; cases e; obtain rfl := h; cases r; exact ⟨_, Reads.none⟩
  | .bl b, v, u, p, h, r, e => by simp only [toP] at e; cases e; obtain rfl := h; cases r; exact ⟨_, Reads.bool b⟩
  | .int i, v, u, p, h, r, e => by simp only [toP] at e; cases e; obtain rfl := h; obtain ⟨t, rfl⟩ := r; exact ⟨_, Reads.int i t⟩
  | .str x, v, u, p, h, r, e => by simp only [toP] at e; cases e; obtain ⟨rfl, _⟩ := h; obtain ⟨t, rfl⟩ := r; exact ⟨_, Reads.str _ t⟩
  | .tup xs, v, u, p, h, r, e => by
    simp only [toP, Option.map_eq_some_iff] at e
    obtain ⟨ps, e1, rfl⟩ := e
    obtain ⟨a, vs, rfl, h1, _, h2⟩ := h
    cases r
    obtain ⟨its, rv, ⟨o, ho, hc, n, hd⟩, _⟩ := I.tuple (SqT.of (K := X.K) h1)
    obtain ⟨as, hr⟩ := shRds I xs vs its ps h2 rv e1
    exact ⟨_, Reads.tuple ho hc hd hr⟩
  | .lst xs, v, u, p, h, r, e => by
    simp only [toP, Option.map_eq_some_iff] at e
    obtain ⟨ps, e1, rfl⟩ := e
    obtain ⟨a, vs, rfl, h1, _, h2⟩ := h
    cases r
    obtain ⟨its, rv, ⟨o, n, ho, hc, _, hd⟩, _⟩ := I.list (SqL.of (K := X.K) h1)
    obtain ⟨as, hr⟩ := shRds I xs vs its ps h2 rv e1
    exact ⟨_, Reads.list ho hc hd hr⟩
  | .dic ks xs, v, u, p, h, r, e => by
    simp only [toP, Option.map_eq_some_iff] at e
    obtain ⟨ps, e1, rfl⟩ := e
    obtain ⟨a, o, es, ep, us, vs, rfl, ho, hc, hd, ya, hk, hu, rv, hs, hl⟩ := sh_dicO I h r
    obtain ⟨as, hr⟩ := shRds I xs vs us ps hs rv e1
    have hl' : (ks.map keyP).length = ps.length := by rw [List.length_map, hl, toPs_len e1]
    refine ⟨_, Reads.dict ho hc hd (by rw [zip_fst hl']; exact hk) (by rw [zip_snd hl', hu]; exact hr)⟩
  | .obj _ _ _, v, u, p, h, r, e => by simp only [toP] at e; cases e
  | .scr _, v, u, p, h, r, e => by simp only [toP] at e; cases e
  | .exn _ _ _, v, u, p, h, r, e => by simp only [toP] at e; cases e
  | .fnv _, v, u, p, h, r, e => by simp only [toP] at e; cases e
theorem shRds (I : Inv X pins σ H s) : ∀ (ds : List D) (vs : List V) (us : List Value) (ps : List PyData), ShL T H ds vs → Vals vs us → toPs ds = some ps → ∃ as, ReadsAll s.heap us ps as
  | [], vs, us, ps, h, r, e => by simp only [toPs] at e; cases e; obtain rfl := h; cases r; exact ⟨_, .nil⟩
  | d :: ds, vs, us, ps, ⟨v, q, hv, h1, h2⟩, r, e => by
    subst hv
    simp only [toPs] at e
    cases e1 : toP d with
    | none => rw [e1] at e; cases e
    | some p =>
      cases e2 : toPs ds with
      | none => rw [e1, e2] at e; cases e
      | some qs =>
        rw [e1, e2] at e
        cases e
        cases r with
        | cons r1 r2 =>
          obtain ⟨as, k1⟩ := shRd I d _ _ p h1 r1 e1
          obtain ⟨bs, k2⟩ := shRds I ds _ _ qs h2 r2 e2
          exact ⟨_, .cons k1 k2⟩
end
mutual
theorem shRp (I : Inv X pins σ H s) : ∀ (d : D) (v : V) (u : Value) (p : PyData), Sh T H d v → RelV v u → toP d = some p → p.showable = true → p.shown.length ≤ sizeLine → ∃ bs, ReadAtMost s.heap p.depth bs ∧ ReprK X.prog X.w bs s.heap p.depth u p.shown
  | .non, v, u, p, h, r, e, hs, hz => by simp only [toP] at e; cases e; obtain rfl := h; cases r; exact ⟨[], (fun _ h => nomatch h), by simp only [PyData.shown]; exact .of_is ReprIs.none _ _ _⟩
  | .bl b, v, u, p, h, r, e, hs, hz => by simp only [toP] at e; cases e; obtain rfl := h; cases r; exact ⟨[], (fun _ h => nomatch h), by simp only [PyData.shown]; exact .of_is (ReprIs.bool b) _ _ _⟩
  | .int i, v, u, p, h, r, e, hs, hz => by simp only [toP] at e; cases e; obtain rfl := h; obtain ⟨t, rfl⟩ := r; exact ⟨[], (fun _ h => nomatch h), by simp only [PyData.shown]; exact .of_is (ReprIs.int t (by simpa [PyData.showable] using hs)) _ _ _⟩
  | .str x, v, u, p, h, r, e, hs, hz => by simp only [toP] at e; cases e; obtain ⟨rfl, _⟩ := h; obtain ⟨t, rfl⟩ := r; exact ⟨[], (fun _ h => nomatch h), by simp only [PyData.shown]; exact .of_is (ReprIs.str _ t (by simpa only [PyData.shown] using hz)) _ _ _⟩
  | .tup xs, v, u, p, h, r, e, hs, hz => by
    obtain ⟨as, rd⟩ := shRd I (.tup xs) v u p h r e
    simp only [toP, Option.map_eq_some_iff] at e
    obtain ⟨ps, e1, rfl⟩ := e
    obtain ⟨a, vs, rfl, h1, _, h2⟩ := h
    cases r
    obtain ⟨its, rv, ⟨o, ho, hc, n, hd⟩, _⟩ := I.tuple (SqT.of (K := X.K) h1)
    have hz' : (tupleText (PyData.shownAll ps)).length ≤ sizeLine := by simpa only [PyData.shown] using hz
    obtain ⟨bs, hb, hk⟩ := shRps I xs vs its ps h2 rv e1 (by simpa [PyData.showable] using hs) (fun t ht => Nat.le_trans (tupleText_mem_le ht) hz')
    have hna : a ∉ bs := not_mem_of_deeper rd (by simp only [PyData.depth]; omega) hb
    refine ⟨a :: bs, ReadAtMost.cons rd (by simp only [PyData.depth]; omega) hb, ?_⟩
    simp only [PyData.depth, PyData.shown]
    exact ReprK.tuple ho hc hd hna hk
  | .lst xs, v, u, p, h, r, e, hs, hz => by
    obtain ⟨as, rd⟩ := shRd I (.lst xs) v u p h r e
    simp only [toP, Option.map_eq_some_iff] at e
    obtain ⟨ps, e1, rfl⟩ := e
    obtain ⟨a, vs, rfl, h1, _, h2⟩ := h
    cases r
    obtain ⟨its, rv, ⟨o, n, ho, hc, _, hd⟩, _⟩ := I.list (SqL.of (K := X.K) h1)
    have hz' : (listText (PyData.shownAll ps)).length ≤ sizeLine := by simpa only [PyData.shown] using hz
    obtain ⟨bs, hb, hk⟩ := shRps I xs vs its ps h2 rv e1 (by simpa [PyData.showable] using hs) (fun t ht => Nat.le_trans (listText_mem_le ht) hz')
    have hna : a ∉ bs := not_mem_of_deeper rd (by simp only [PyData.depth]; omega) hb
    refine ⟨a :: bs, ReadAtMost.cons rd (by simp only [PyData.depth]; omega) hb, ?_⟩
    simp only [PyData.depth, PyData.shown]
    cases its with
    | nil =>
      cases rv
      obtain rfl : xs = [] := by cases xs with | nil => rfl | cons x xs => obtain ⟨_, _, q, _⟩ := h2; cases q
      simp only [toPs] at e1
      cases e1
      simp only [PyData.shownAll, listText_nil]
      exact ReprK.listEmpty ho hc hd
    | cons x l => exact ReprK.list ho hc hd hna (by simpa using hk.length_eq) (fun i y e => hk.item i y (by simpa using e))
  | .dic ks xs, v, u, p, h, r, e, hs, hz => by
    obtain ⟨as, rd⟩ := shRd I (.dic ks xs) v u p h r e
    simp only [toP, Option.map_eq_some_iff] at e
    obtain ⟨ps, e1, rfl⟩ := e
    obtain ⟨a, o, es, ep, us, vs, rfl, ho, hc, hd, ya, hk, hu, rv, h2, hl⟩ := sh_dicO I h r
    have hl' : (ks.map keyP).length = ps.length := by rw [List.length_map, hl, toPs_len e1]
    have hz' : (dictText (PyData.shownKv ((ks.map keyP).zip ps))).length ≤ sizeLine := by simpa only [PyData.shown] using hz
    obtain ⟨hs1, hs2⟩ := PyData.showableKv_split _ (by simpa [PyData.showable] using hs)
    rw [zip_fst hl'] at hs1
    rw [zip_snd hl'] at hs2
    have k1 := ReprAllK.of_readsAll (prog := X.prog) (w := X.w) hk hs1 (fun _ hm => nomatch hm) (fun t ht => let ⟨p, hp, hl⟩ := PyData.shownKv_key_le ((ks.map keyP).zip ps) t (by rw [zip_fst hl']; exact ht); Nat.le_trans hl (Nat.le_trans (dictText_mem_le hp) hz'))
    obtain ⟨b1, hb1, k1⟩ := k1
    obtain ⟨b2, hb2, k2⟩ := shRps I xs vs us ps h2 rv e1 hs2 (fun t ht => let ⟨p, hp, hl⟩ := PyData.shownKv_val_le ((ks.map keyP).zip ps) t (by rw [zip_snd hl']; exact ht); Nat.le_trans hl (Nat.le_trans (dictText_mem_le hp) hz'))
    have d1 := PyData.depthAll_keys_le ((ks.map keyP).zip ps)
    have d2 := PyData.depthAll_vals_le ((ks.map keyP).zip ps)
    rw [zip_fst hl'] at d1
    rw [zip_snd hl'] at d2
    have hb : ReadAtMost s.heap (PyData.depthKv ((ks.map keyP).zip ps)) (b1 ++ b2) := (hb1.mono d1).append (hb2.mono d2)
    have hna : a ∉ b1 ++ b2 := not_mem_of_deeper rd (by simp only [PyData.depth]; omega) hb
    refine ⟨a :: (b1 ++ b2), ReadAtMost.cons rd (by simp only [PyData.depth]; omega) hb, ?_⟩
    simp only [PyData.depth, PyData.shown, PyData.shownKv_eq, zip_fst hl', zip_snd hl']
    exact ReprK.dict ho hc hd ya hna (ReprEntriesK.of_two es.toList _ _
      (k1.more_le (fun b hb => List.mem_append_left _ hb) d1) ((hu ▸ k2).more_le (fun b hb => List.mem_append_right _ hb) d2))
  | .obj _ _ _, v, u, p, h, r, e, hs, hz => by simp only [toP] at e; cases e
  | .scr _, v, u, p, h, r, e, hs, hz => by simp only [toP] at e; cases e
  | .exn _ _ _, v, u, p, h, r, e, hs, hz => by simp only [toP] at e; cases e
  | .fnv _, v, u, p, h, r, e, hs, hz => by simp only [toP] at e; cases e
theorem shRps (I : Inv X pins σ H s) : ∀ (ds : List D) (vs : List V) (us : List Value) (ps : List PyData), ShL T H ds vs → Vals vs us → toPs ds = some ps → PyData.showableAll ps = true → (∀ t ∈ PyData.shownAll ps, t.length ≤ sizeLine) →
    ∃ bs, ReadAtMost s.heap (PyData.depthAll ps) bs ∧ ReprAllK X.prog X.w bs s.heap (PyData.depthAll ps) us (PyData.shownAll ps)
  | [], vs, us, ps, h, r, e, _, _ => by simp only [toPs] at e; cases e; obtain rfl := h; cases r; exact ⟨[], (fun _ h => nomatch h), by simp only [PyData.shownAll]; exact .nil⟩
  | d :: ds, vs, us, ps, ⟨v, q, hv, h1, h2⟩, r, e, hs, hz => by
    subst hv
    simp only [toPs] at e
    cases e1 : toP d with
    | none => rw [e1] at e; cases e
    | some p =>
      cases e2 : toPs ds with
      | none => rw [e1, e2] at e; cases e
      | some qs =>
        rw [e1, e2] at e
        cases e
        cases r with
        | cons r1 r2 =>
          have hs' : p.showable = true ∧ PyData.showableAll qs = true := by simpa [PyData.showableAll] using hs
          obtain ⟨b1, hb1, k1⟩ := shRp I d _ _ p h1 r1 e1 hs'.1 (hz _ (by simp only [PyData.shownAll]; exact List.mem_cons_self ..))
          obtain ⟨b2, hb2, k2⟩ := shRps I ds _ _ qs h2 r2 e2 hs'.2 (fun t ht => hz t (by simp only [PyData.shownAll]; exact List.mem_cons_of_mem _ ht))
          refine ⟨b1 ++ b2, ?_, ?_⟩
          · intro b hm
            simp only [PyData.depthAll]
            rcases List.mem_append.mp hm with hm | hm
            · obtain ⟨d', as', r', hd'⟩ := hb1 b hm
              exact ⟨d', as', r', Nat.le_trans hd' (Nat.le_max_left _ _)⟩
            · obtain ⟨d', as', r', hd'⟩ := hb2 b hm
              exact ⟨d', as', r', Nat.le_trans hd' (Nat.le_max_right _ _)⟩
          · simp only [PyData.depthAll, PyData.shownAll]
            exact .cons ((k1.more fun b hb => List.mem_append_left _ hb).level_le (Nat.le_max_left _ _)) (k2.more_le (fun b hb => List.mem_append_right _ hb) (Nat.le_max_right _ _))
end
/-- what shows a tree that lies on the heap -/
theorem shShows (I : Inv X pins σ H s) : ∀ (d : D) (v : V) (a : Addr) (p : PyData), Sh T H d v → RelV v (.ref a) → toP d = some p → p.showable = true → p.shown.length ≤ sizeLine → ∃ Ty idr, ShowsBy X.prog X.w s.heap a p Ty idr
  | .non, v, u, p, h, r, e, hs, hz => by obtain rfl := h; cases r
  | .bl b, v, u, p, h, r, e, hs, hz => by obtain rfl := h; cases r
  | .int i, v, u, p, h, r, e, hs, hz => by obtain rfl := h; obtain ⟨t, q⟩ := r; cases q
  | .str x, v, u, p, h, r, e, hs, hz => by obtain ⟨rfl, _⟩ := h; obtain ⟨t, q⟩ := r; cases q
  | .tup xs, v, a, p, h, r, e, hs, hz => by
    obtain ⟨as, rd⟩ := shRd I (.tup xs) v _ p h r e
    simp only [toP, Option.map_eq_some_iff] at e
    obtain ⟨ps, e1, rfl⟩ := e
    obtain ⟨a1, vs, rfl, h1, _, h2⟩ := h
    have ea : a = a1 := by cases r; rfl
    subst ea
    obtain ⟨its, rv, ⟨o, ho, hc, n, hd⟩, _⟩ := I.tuple (SqT.of (K := X.K) h1)
    have hz' : (tupleText (PyData.shownAll ps)).length ≤ sizeLine := by simpa only [PyData.shown] using hz
    obtain ⟨bs, hb, hk⟩ := shRps I xs vs its ps h2 rv e1 (by simpa [PyData.showable] using hs) (fun t ht => Nat.le_trans (tupleText_mem_le ht) hz')
    have hna : a ∉ bs := not_mem_of_deeper rd (by simp only [PyData.depth]; omega) hb
    refine ⟨"tuple", "tuple.__repr__", F.slot_tuple_repr, F.slot_tuple_str, F.slot_tuple_format, fun s hk0 => ⟨o, hk0 _ _ ho, hc⟩, fun A E s Q hg hu hk0 hQ => ?_⟩
    simp only [PyData.depth] at hu
    simp only [PyData.shown] at hQ
    exact call_tuple_reprK ho hc hd hna hk hg (fun b _ => Clear.nil b) hu hk0 hQ hz'
  | .lst xs, v, a, p, h, r, e, hs, hz => by
    obtain ⟨as, rd⟩ := shRd I (.lst xs) v _ p h r e
    simp only [toP, Option.map_eq_some_iff] at e
    obtain ⟨ps, e1, rfl⟩ := e
    obtain ⟨a1, vs, rfl, h1, _, h2⟩ := h
    have ea : a = a1 := by cases r; rfl
    subst ea
    obtain ⟨its, rv, ⟨o, n, ho, hc, _, hd⟩, _⟩ := I.list (SqL.of (K := X.K) h1)
    have hz' : (listText (PyData.shownAll ps)).length ≤ sizeLine := by simpa only [PyData.shown] using hz
    obtain ⟨bs, hb, hk⟩ := shRps I xs vs its ps h2 rv e1 (by simpa [PyData.showable] using hs) (fun t ht => Nat.le_trans (listText_mem_le ht) hz')
    have hna : a ∉ bs := not_mem_of_deeper rd (by simp only [PyData.depth]; omega) hb
    refine ⟨"list", "list.__repr__", F.slot_list_repr.toG, F.slot_list_str, F.slot_list_format, fun s hk0 => ⟨o, hk0 _ _ ho, hc⟩, fun A E s Q hg hu hk0 hQ => ?_⟩
    simp only [PyData.depth] at hu
    simp only [PyData.shown] at hQ
    cases its with
    | nil =>
      cases rv
      obtain rfl : xs = [] := by cases xs with | nil => rfl | cons x xs => obtain ⟨_, _, q, _⟩ := h2; cases q
      simp only [toPs] at e1
      cases e1
      simp only [PyData.shownAll, listText_nil] at hQ
      exact call_list_repr_empty ⟨o, hk0 _ _ ho, hc⟩ (hk0 _ _ ho) hd (hQ s.heap _ _ fun _ _ e => e)
    | cons x l => exact call_list_reprK ho hc hd hna (by simpa using hk.length_eq) (fun i y e => hk.item i y (by simpa using e)) hg (fun b _ => Clear.nil b) hu hk0 hQ hz'
  | .dic ks xs, v, a, p, h, r, e, hs, hz => by
    obtain ⟨as, rd⟩ := shRd I (.dic ks xs) v _ p h r e
    simp only [toP, Option.map_eq_some_iff] at e
    obtain ⟨ps, e1, rfl⟩ := e
    obtain ⟨a1, o, es, ep, us, vs, ea, ho, hc, hd, ya, hk, hu, rv, h2, hl⟩ := sh_dicO I h r
    have ea : a = a1 := by cases ea; rfl
    subst ea
    have hl' : (ks.map keyP).length = ps.length := by rw [List.length_map, hl, toPs_len e1]
    have hz' : (dictText (PyData.shownKv ((ks.map keyP).zip ps))).length ≤ sizeLine := by simpa only [PyData.shown] using hz
    obtain ⟨hs1, hs2⟩ := PyData.showableKv_split _ (by simpa [PyData.showable] using hs)
    rw [zip_fst hl'] at hs1
    rw [zip_snd hl'] at hs2
    have k1 := ReprAllK.of_readsAll (prog := X.prog) (w := X.w) hk hs1 (fun _ hm => nomatch hm) (fun t ht => let ⟨p, hp, hl⟩ := PyData.shownKv_key_le ((ks.map keyP).zip ps) t (by rw [zip_fst hl']; exact ht); Nat.le_trans hl (Nat.le_trans (dictText_mem_le hp) hz'))
    obtain ⟨b1, hb1, k1⟩ := k1
    obtain ⟨b2, hb2, k2⟩ := shRps I xs vs us ps h2 rv e1 hs2 (fun t ht => let ⟨p, hp, hl⟩ := PyData.shownKv_val_le ((ks.map keyP).zip ps) t (by rw [zip_snd hl']; exact ht); Nat.le_trans hl (Nat.le_trans (dictText_mem_le hp) hz'))
    have d1 := PyData.depthAll_keys_le ((ks.map keyP).zip ps)
    have d2 := PyData.depthAll_vals_le ((ks.map keyP).zip ps)
    rw [zip_fst hl'] at d1
    rw [zip_snd hl'] at d2
    have hb : ReadAtMost s.heap (PyData.depthKv ((ks.map keyP).zip ps)) (b1 ++ b2) := (hb1.mono d1).append (hb2.mono d2)
    have hna : a ∉ b1 ++ b2 := not_mem_of_deeper rd (by simp only [PyData.depth]; omega) hb
    refine ⟨"dict", "dict.__repr__", F.slot_dict_repr, F.slot_dict_str, F.slot_dict_format, fun s hk0 => ⟨o, hk0 _ _ ho, hc⟩, fun A E s Q hg hu' hk0 hQ => ?_⟩
    simp only [PyData.depth] at hu'
    simp only [PyData.shown, PyData.shownKv_eq] at hQ
    refine call_dict_reprK ho hc hd ya hna (ReprEntriesK.of_two es.toList _ _
      (k1.more_le (fun b hb => List.mem_append_left _ hb) d1) ((hu ▸ k2).more_le (fun b hb => List.mem_append_right _ hb) d2)) hg (fun b _ => Clear.nil b) hu' hk0 (by rw [zip_fst hl', zip_snd hl'] at hQ; exact hQ) (by rw [PyData.shownKv_eq, zip_fst hl', zip_snd hl'] at hz'; exact hz')
  | .obj _ _ _, v, u, p, h, r, e, hs, hz => by simp only [toP] at e; cases e
  | .scr _, v, u, p, h, r, e, hs, hz => by simp only [toP] at e; cases e
  | .exn _ _ _, v, u, p, h, r, e, hs, hz => by simp only [toP] at e; cases e
  | .fnv _, v, u, p, h, r, e, hs, hz => by simp only [toP] at e; cases e
end
def rRep (T : Cl) : List V → Hp → VK → Prop := fun xs H Q => ∃ v d p, xs = [v] ∧ Sh T H d v ∧ toP d = some p ∧ p.showable = true ∧ p.depth ≤ 60 ∧ p.shown.length ≤ sizeLine ∧ Q (.str p.shown) H
theorem call_repr {X : Cx} {T : Cl} (hg : X.A.guards = some []) (hu : X.A.units + 64 < cLine) : CallR X (.builtin "repr") (rRep T) := by
  intro pins s σ H xs us Q I r h
  obtain ⟨v, d, p, rfl, hd, hp, h1, h3, h4, q⟩ := h
  obtain ⟨u, rfl, ru⟩ := vals1 r
  have ref : ∀ a : Addr, u = .ref a → wpAny (model X.prog X.w) X.A (call (.builtin "repr") [u]) (EP X pins σ Q) X.xe s := fun a e => by
    subst e
    obtain ⟨Ty, idr, S⟩ := shShows I d v a p hd ru hp h1 h4
    exact call_repr_slot (by omega) (S.typeIs s fun _ _ h => h) S.slotRepr (S.call X.A.in1 _ s _ hg (by show X.A.units + 1 + p.depth < cLine; omega) (fun _ _ h => h) fun h' u tk k => ⟨_, _, rfl, ⟨.str _, H, I.kept k, ⟨_, rfl⟩, q⟩⟩)
  cases d with
  | non =>
    simp only [toP] at hp; cases hp; obtain rfl := hd; cases ru
    exact PySem.P.repr_of_none ⟨.str _, H, I.tok _, ⟨_, rfl⟩, q⟩
  | bl b =>
    simp only [toP] at hp; cases hp; obtain rfl := hd; cases ru
    exact PySem.P.repr_of_bool ⟨.str _, H, I.tok _, ⟨_, rfl⟩, q⟩
  | int i =>
    simp only [toP] at hp; cases hp; obtain rfl := hd; obtain ⟨t, rfl⟩ := ru
    exact PySem.P.repr_of_int (by simpa [PyData.showable] using h1) ⟨.str _, H, I.tok _, ⟨_, rfl⟩, q⟩
  | str x =>
    simp only [toP] at hp; cases hp; obtain ⟨rfl, _⟩ := hd; obtain ⟨t, rfl⟩ := ru
    exact PySem.P.repr_of_str ⟨.str _, H, I.tok _, ⟨_, rfl⟩, q⟩ h4
  | lst _ => obtain ⟨a, vs, rfl, _⟩ := hd; exact ref a ru
  | tup _ => obtain ⟨a, vs, rfl, _⟩ := hd; exact ref a ru
  | dic _ _ => obtain ⟨a, vs, rfl, _⟩ := hd; exact ref a ru
  | _ => simp only [toP] at hp; cases hp
def reprD (d : D) : Option W := match toP d with
  | some p => if p.showable = true ∧ p.depth ≤ 60 ∧ p.shown.length ≤ lim then some (.sh (.str p.shown.cps.toList)) else none
  | none => none
theorem sRepr {T : Cl} : S1 T (fun v H Q => rRep T [v] H Q) reprD := by
  intro Z H σ env v d w Q r hd ho n
  unfold reprD at ho
  cases e : toP d with
  | none => rw [e] at ho; cases ho
  | some p =>
    rw [e] at ho
    simp only at ho
    split at ho
    · rename_i hx
      cases ho
      have hz : p.shown.length ≤ sizeLine := by rw [sizeLine_eq]; exact Nat.le_trans hx.2.2 (by decide)
      exact ⟨v, d, p, rfl, Vw.sh r.ex hd, e, hx.1, hx.2.1, hz, n.sc r ⟨rfl, by rw [Array.length_toList]; exact hz⟩⟩
    · cases ho
section
variable {X : Cx} {T : Cl} {Wx : WX} {as : List Nat} {σ : St}
/-- what is held while something else is computed -/
theorem hold {Z1 H1 Z2 H2 : Hp} {env1 env2 : Env'} {v u : V} {w w2 : W} (s1 : Rw T Z1 H1 w v) (x1 : ∀ a, KW.ext v w a → ¬ Owns σ env1 a) (a2 : Adv (Owns σ env1) Z1 H1 (fun a => Owns σ env2 a ∨ KW.ext u w2 a) Z2 H2) :
    Rw T Z2 H2 w v ∧ (∀ a, KW.ext v w a → ¬ Owns σ env2 a) ∧ ∀ a, KW.ext v w a → ¬ KW.ext u w2 a := by
  have h0 : ∀ a, KW.ext v w a → ¬ (Owns σ env2 a ∨ KW.ext u w2 a) := fun a h z => by
    rcases a2.ow a z with q | q
    · exact x1 a h q
    · have s1a : Rw T Z1 H1 w (.ref a) := by rw [← h.2]; exact s1
      obtain ⟨_, o, e⟩ := s1a.there h.1
      rw [q] at e; cases e
  exact ⟨s1.adv a2 fun ow a e => x1 a ⟨ow, e⟩, fun a h z => h0 a h (.inl z), fun a h z => h0 a h (.inr z)⟩
def par3 (i j l : Nat) (f g h : M W) : M Fl := f >>= fun x => g >>= fun y => h >>= fun z => fun env => (setE i x env).bind fun _ env => (setE j y env).bind fun _ => setE l z
theorem sd_par3 {i j l : Nat} {x y z : Str} {a b c : Expr} {px py pz pt pos : Pos} {kt k2 pt2} {f g h : M W} (hc : X.calm = true) (hN : X.N.Nodup) (hi : X.N[i]? = some x) (hj : X.N[j]? = some y) (hl : X.N[l]? = some z) (hij : i ≠ j) (hil : i ≠ l) (hjl : j ≠ l) (ai : i ∈ as) (aj : j ∈ as) (al : l ∈ as)
    (hx : X.env.scope.names.lookup x = some .local) (hy : X.env.scope.names.lookup y = some .local) (hz : X.env.scope.names.lookup z = some .local) (ha : PE X a (TF T Wx KW f)) (hb : PE X b (TF T Wx KW g)) (hd : PE X c (TF T Wx KW h))
    (sa : starEach [a, b, c] X.env = (false, eval a X.env) :: starEach [b, c] X.env := by rfl) (sb : starEach [b, c] X.env = (false, eval b X.env) :: starEach [c] X.env := by rfl) (sc : starEach [c] X.env = (false, eval c X.env) :: starEach [] X.env := by rfl)
    (hw : swappedStores [.Tuple [.Name x px, .Name y py, .Name z pz] kt pt] (.Tuple [a, b, c] k2 pt2) X.env = pure (some [x, y, z]) := by rfl)
    (hs : swapsWithSole [.Tuple [.Name x px, .Name y py, .Name z pz] kt pt] (.Tuple [a, b, c] k2 pt2) pos.line X.env = pure false := by rfl) :
    PS X (.Assign [.Tuple [.Name x px, .Name y py, .Name z pz] kt pt] (.Tuple [a, b, c] k2 pt2) pos) (TSF T Wx as (par3 i j l f g h)) :=
  psImp (ps_par3 hc hN hi hj hl hij hil hjl hx hy hz (pa_cons ha (pa_cons hb (pa_cons hd pa_nil sc) sb) sa) hw hs) fun D σ H q => TSF.bind (κ := KW) q fun Z1 H1 v w env1 r1 s1 x1 p => by
    have p0 : PostS T Wx as σ (fun a => Owns σ env1 a ∨ KW.ext v w a) Z1 H1 ((g env1).bind fun y => h >>= fun z => fun env => (setE i w env).bind fun _ env => (setE j y env).bind fun _ => setE l z) D := p
    have p1 := p0.noext r1.ex
    refine ⟨Z1, env1, r1, ?_⟩
    cases eg : g env1 with
    | bad => rw [eg] at p1; exact p1
    | exc c ns ds env2 =>
      rw [eg] at p1
      exact fun Z2 H2 cls dd a2 r2 k2 => p1 Z2 H2 σ cls dd (fun _ _ => rfl) a2 r2 k2
    | ok w2 env2 =>
      rw [eg] at p0
      intro Z2 H2 u a2 r2 s2 x2
      obtain ⟨s1, x1, d12⟩ := hold s1 x1 a2
      have a2' := (a2.more (O2 := fun a => Owns σ env1 a ∨ KW.ext v w a) fun _ z => .inl z).wid (P := KW.ext v w) fun _ z => .inr z
      have p2 : PostS T Wx as σ (fun a => (Owns σ env2 a ∨ KW.ext u w2 a) ∨ KW.ext v w a) Z2 H2 ((h env2).bind fun z => fun env => (setE i w env).bind fun _ env => (setE j w2 env).bind fun _ => setE l z) D := PostS.later (fun _ _ => rfl) a2' p0
      have p3 : PostS T Wx as σ (Owns σ env2) Z2 H2 ((h env2).bind fun z => fun env => (setE i w env).bind fun _ env => (setE j w2 env).bind fun _ => setE l z) D := (p2.noext r2.ex).noext r2.ex
      refine ⟨Z2, env2, r2, ?_⟩
      cases eh : h env2 with
      | bad => rw [eh] at p3; exact p3
      | exc c ns ds env3 =>
        rw [eh] at p3
        exact fun Z3 H3 cls dd a3 r3 k3 => p3 Z3 H3 σ cls dd (fun _ _ => rfl) a3 r3 k3
      | ok w3 env3 =>
        rw [eh] at p2
        intro Z3 H3 t a3 r3 s3 x3
        obtain ⟨s1, x1, d13⟩ := hold s1 x1 a3
        obtain ⟨s2, x2, d23⟩ := hold s2 x2 a3
        have a3' := (a3.more (O2 := fun a => (Owns σ env2 a ∨ KW.ext u w2 a) ∨ KW.ext v w a) fun _ z => .inl (.inl z)).wid (P := fun a => KW.ext u w2 a ∨ KW.ext v w a) fun _ z => z.elim (fun z => .inl (.inr z)) .inr
        have p4 : PostS T Wx as σ (fun a => (Owns σ env3 a ∨ KW.ext t w3 a) ∨ (KW.ext u w2 a ∨ KW.ext v w a)) Z3 H3 ((setE i w env3).bind fun _ env => (setE j w2 env).bind fun _ => setE l w3) D := PostS.later (fun _ _ => rfl) a3' p2
        refine ⟨v, u, t, rfl, ?_⟩
        unfold setE at p4
        split at p4
        · rename_i h1
          obtain ⟨r4, o4⟩ := r3.bindS h1 s1 x1
          have p5 : PostS T Wx as σ _ Z3 H3 ((setE j w2 (env3.set i (some w))).bind fun _ => setE l w3) D := p4
          unfold setE at p5
          split at p5
          · rename_i h2
            obtain ⟨r5, o5⟩ := r4.bindS h2 s2 fun a q z => (o4 a z).elim (x2 a q) fun y => d12 a y q
            have p6 : PostS T Wx as σ _ Z3 H3 (setE l w3 ((env3.set i (some w)).set j (some w2))) D := p5
            have sub : ∀ a, Owns ((σ.set i (some v)).set j (some u)) ((env3.set i (some w)).set j (some w2)) a → Owns σ env3 a ∨ KW.ext u w2 a ∨ KW.ext v w a := fun a z => (o5 a z).elim (fun z => (o4 a z).imp id .inr) fun z => .inr (.inl z)
            refine setE_post (σ := (σ.set i (some v)).set j (some u)) al r5 s3 (fun a q z => ?_) (PostS.later (fun k hk => ?_) ((Adv.refl r3.ex).weak fun a z => ?_) p6)
            · rcases sub a z with z | z | z
              · exact x3 a q z
              · exact d23 a z q
              · exact d13 a z q
            · rw [List.getElem?_set_ne (fun e => hk (by rw [← e]; exact aj)), List.getElem?_set_ne (fun e => hk (by rw [← e]; exact ai))]
            · rcases z with z | z
              · rcases sub a z with z | z
                · exact .inl (.inl z)
                · exact .inr z
              · exact .inl (.inr z)
          · exact p5.elim
        · exact p4.elim
end
end Wc
namespace Wc
open PySem PySem.Spec PyProof.Rows L2
/-- what is tracked when the law is called: the script, if it is none of the module's own objects -/
def scriptH (K : PySem.W.Frag) (a : Addr) (vs : List Value) (ns : List Int) : Hp := fun b => if b = a ∧ K.lookup a = none then some (.frz { cls := .type "list", data := .seq vs.toArray } (.lst (ns.map V.int))) else none
theorem scriptH_some {K : PySem.W.Frag} {a b : Addr} {vs : List Value} {ns : List Int} {o : HO} (h : scriptH K a vs ns b = some o) : b = a ∧ K.lookup a = none ∧ o = .frz { cls := .type "list", data := .seq vs.toArray } (.lst (ns.map V.int)) := by
  unfold scriptH at h
  split at h
  · rename_i hc; cases h; exact ⟨hc.1, hc.2, rfl⟩
  · cases h
theorem lawCallG {P : Program} {w : World} {K : PySem.W.Frag} {mg mb : Str → Option Value} {k : Nat} {fa a : Addr} {fd : FuncData} {x : Str} {sp : Sp} {s₁ : Shared} {vs : List Value} {ns : List Int}
    (KX : K.In s₁.heap) (hns : s₁.heap.Ns mainGlobals mg) (hb : s₁.heap.Ns builtinsNs mb) (hbb : ∀ x : Str, x ≠ "__name__" → mb x = bootBuiltins x) (hlim : s₁.heap.NoLimit) (hg : s₁.gens = #[])
    (ha : s₁.heap.get? a = some { cls := .type "list", data := .seq vs.toArray }) (hi : IntsAre vs ns) (hl : ns.length ≤ sizeLine) (hr : Room k callerA)
    (F : ∀ base : Heap, K.In base → base.Ns mainGlobals mg → FnG P w K mg base k fa fd [x] sp) (hbind : ∀ (s : Shared) (u : Value), BindsTo s fd ⟨[u], []⟩ [(x, u)])
    (hsp : ∀ H : Hp, Only H → SqL K H a (ns.map V.int) → sp [.ref a] H (fun v _ => v = .bl true) fun _ _ _ => False) :
    codeAny (model P w) callerA (.call (.ref fa) ⟨[.ref a], []⟩) (fun r s' => r = .ok (.ret (.bool true)) ∧ OldK s₁.heap s'.heap ∧ s'.os = s₁.os ∧ AllBare s'.gens) s₁ := by
  have rv := vals_ints hi
  have none_of : ∀ {b : Addr}, (b = a → K.lookup a ≠ none) → scriptH K a vs ns b = none := fun {b} h => by
    unfold scriptH
    rw [if_neg fun z => h z.1 z.2]
  have hok : HOk P w (scriptH K a vs ns) s₁.heap := fun b o e => by
    obtain ⟨rfl, _, rfl⟩ := scriptH_some e
    exact ⟨ha, by rw [List.length_map]; exact hl, vs, _, rv, ha⟩
  have only : Only (scriptH K a vs ns) := fun b => by
    cases q : scriptH K a vs ns b with
    | none => exact .inl rfl
    | some o =>
      obtain ⟨_, _, rfl⟩ := scriptH_some q
      exact .inr ⟨_, _, rfl⟩
  have isq : SqL K (scriptH K a vs ns) a (ns.map V.int) := by
    cases hk : K.lookup a with
    | none =>
      refine .inl (.inr ⟨{ cls := .type "list", data := .seq vs.toArray }, ?_⟩)
      unfold scriptH
      rw [if_pos ⟨rfl, hk⟩]
    | some o =>
      have e := KX a o hk
      rw [ha] at e
      cases e
      exact .inr ⟨_, vs.toArray, _, hk, rfl, rfl, rfl, by rw [List.size_toArray, hi.length]; exact hl, by simpa using rv⟩
  have dictN : ∀ {b : Addr} {o : Obj} {es : Array DictEntry} {ep : Nat}, s₁.heap.get? b = some o → o.data = .dict es ep → scriptH K a vs ns b = none := fun {b o es ep} e d => by
    cases q : scriptH K a vs ns b with
    | none => rfl
    | some u =>
      obtain ⟨rfl, _, _⟩ := scriptH_some q
      rw [ha] at e
      cases e
      cases d
  have nsK : ∀ {b : Addr} {m : Str → Option Value}, s₁.heap.Ns b m → (hidT s₁.heap (scriptH K a vs ns)).Ns b m := fun ⟨o, es, ep, e, d, r⟩ => ⟨o, es, ep, hidT_get e (dictN e d), d, r⟩
  have hKb : K.In (hidT s₁.heap (scriptH K a vs ns)) := fun b o e => hidT_get (KX b o e) (none_of fun z n => by rw [z, n] at e; cases e)
  obtain ⟨mc, l1, l2⟩ := hlim
  have e0 : Env0 P w K mg (hidT s₁.heap (scriptH K a vs ns)) callerA [] s₁ (scriptH K a vs ns) :=
    ⟨rfl, ⟨hKb, nsK hns, ⟨mb, nsK hb, hbb⟩, mc, nsK l1, l2⟩, fun b o e => of_hidT e, Nat.le_of_eq (hidT_size _ _), trivial, fun b hb => absurd (show b ∈ ([] : List Addr) from hb) (by simp), hok, .of_eq hg⟩
  refine codeAny_mono ((F _ hKb (nsK hns)).run callerA [] s₁ _ ⟨[.ref a], []⟩ [.ref a] [.ref a] _ _ rfl hr e0 (hbind s₁ (.ref a)) (.cons rfl .nil) (hsp _ only isq)) fun r s' h => ?_
  cases r with
  | error e =>
    obtain ⟨_, _, _, _, _, _, _, _, _, _, _, _, z⟩ := h
    exact z.elim
  | ok fl =>
    cases fl with
    | next => exact False.elim h
    | brk => exact False.elim h
    | cont => exact False.elim h
    | ret u =>
      obtain ⟨v, H', os, bare, un, hok', r', q⟩ := h
      have q : v = .bl true := q
      subst q
      obtain rfl : u = Value.bool true := r'
      refine ⟨rfl, OldK.of_keep fun b o e => ?_, os, bare⟩
      cases q : scriptH K a vs ns b with
      | none => exact un.keep b o e q (by intro z; exact absurd (show b ∈ ([] : List Addr) from z) (by simp)) (by simp)
      | some u =>
        obtain ⟨_, _, rfl⟩ := scriptH_some q
        have z2 := hok' b _ (un.frzs b _ _ q)
        have z1 := hok b _ q
        rw [z1.1] at e
        cases e
        exact z2.1
/-- the goal that k_head leaves -/
theorem walkG {l : PySem.W.OpenLaw} {n k : Nat} {q : Program} {loose : List Str} {XP : (Str → Option Value) → Heap → Prop} {YP : World → Heap → Prop} {d : DefRec} {K : Params → PySem.W.Frag} {x : Str}
    (hn : l.most = some n) (hn2 : n ≤ sizeLine) (hdf : d.params.defaults = []) (hr : Room k callerA) (hY : ∀ (w : World) (h : Heap), YP w h → (K w.params).In h)
    (F : ∀ (w : World) (mg : Str → Option Value) (fa : Addr) (h : Heap), (K w.params).In h → h.Ns mainGlobals mg → mg d.name = some (.ref fa) →
      ∃ fd : FuncData, (∀ (s : Shared) (u : Value), BindsTo s fd ⟨[u], []⟩ [(x, u)]) ∧ ∃ T : Cl, T.K = K w.params ∧ ∃ f : M W, (∀ ns : List Int, ns.length ≤ n → ∃ e, f [some (.sh (.scr ns))] = .ok (.sh (.bl true)) e) ∧
        ∀ base : Heap, (K w.params).In base → base.Ns mainGlobals mg → FnG l.prog w (K w.params) mg base k fa fd [x] (spF T 1 f)) :
    PySem.W.WalkO q loose XP YP l.row.toRowW d [] (fun f vs => PySem.call f vs) := by
  refine Att.attach_call hn hdf fun w s₀ s₁ mg mb fa o pm cd doc a vs ns G Y ho hd hcd hmg hobj hints hlen hg => ?_
  have KX := hY w _ Y
  obtain ⟨fd, hb, T, hT, f, hf, hF⟩ := F w mg fa _ KX G.T.g hmg
  refine lawCallG KX G.T.g G.T.b G.T.builtins G.T.nolimit hg hobj hints (Nat.le_trans hlen hn2) hr hF hb fun H hO hS => ⟨rfl, H, [some (.sh (.scr ns))], ?_, ?_⟩
  · refine ⟨Evl.Ex.refl H, rfl, fun i u hi => ?_, fun i j u v p ne h1 h2 o1 => ?_⟩
    · match i, hi with
      | 0, hi =>
        cases hi
        exact ⟨_, rfl, a, rfl, by rw [hT]; exact hS⟩
      | i + 1, hi => simp at hi
    · match i, h1 with
      | 0, h1 => cases h1; cases o1
      | i + 1, h1 => simp at h1
  · obtain ⟨e, he⟩ := hf ns hlen
    show Post T _ KW _ _ _ _ (f [some (.sh (.scr ns))]) _
    rw [he]
    exact fun Z' H' v _ _ s _ => s
end Wc
namespace Wc
open PySem PySem.Spec PyProof.Rows L2
section
variable {X : Cx} {T : Cl} {Wx : WX}
theorem pd_int {i : Int} {j : Nat} {pos : Pos} : PE X (.Constant (.int i) j pos) (TF T Wx KD (kc (.int i))) := pd_c pe_int fun _ => rfl
theorem pd_bl {b : Bool} {j : Nat} {pos : Pos} : PE X (.Constant (.bool b) j pos) (TF T Wx KD (kc (.bl b))) := pd_c pe_bl fun _ => rfl
theorem pd_non {j : Nat} {pos : Pos} : PE X (.Constant .none j pos) (TF T Wx KD (kc .non)) := pd_c pe_non fun _ => rfl
theorem pd_str {x : Str} {l : List Nat} {j : Nat} {pos : Pos} (h : x = ⟨l.toArray⟩) (hl : l.length ≤ lim := by decide) : PE X (.Constant (.str x) j pos) (TF T Wx KD (kc (.str l))) :=
  pd_c pe_str fun _ => ⟨congrArg V.str h, by rw [sizeLine_eq]; exact Nat.le_trans hl (by decide)⟩
theorem pd_gi {x : Str} {i : Int} {t : Tok} {pos : Pos} (hg : Gl X x) (hm : X.mg x = some (.int i t)) (hd : (x == ("__debug__" : Str)) = false := by decide) : PE X (.Name x pos) (TF T Wx KD (kc (.int i))) := pd_c (v := .int i) (pe_glob hg hm ⟨t, rfl⟩ hd) fun _ => rfl
theorem pd_gs {x y : Str} {l : List Nat} {t : Tok} {pos : Pos} (hg : Gl X x) (hm : X.mg x = some (.str y t)) (h : y = ⟨l.toArray⟩) (hl : l.length ≤ lim := by decide) (hd : (x == ("__debug__" : Str)) = false := by decide) : PE X (.Name x pos) (TF T Wx KD (kc (.str l))) :=
  pd_c (v := .str y) (pe_glob hg hm ⟨t, rfl⟩ hd) fun _ => ⟨congrArg V.str h, by rw [sizeLine_eq]; exact Nat.le_trans hl (by decide)⟩
end
theorem pts_yes {X : Cx} {T : Cl} : PTs X [] (TF T W0 KB yesM) := ⟨fun pins s σ H Q I ⟨Z, env, r, p⟩ => pts_nil.run pins s σ H Q I (p Z H true ((Adv.refl (O := Owns σ env) r.ex).weak fun y hy => hy.elim id fun z => z.elim) r rfl fun _ z => z.elim)⟩
/-- fn_mk with the context written out -/
theorem fn_mk2 {P : Program} {w : World} {K : PySem.W.Frag} {mg : Str → Option Value} {base : Heap} {T : Cl} {k : Nat} {x qual : Str} {st : Stmt} {f : Addr} {fd : FuncData} {N ps : List Str} {np nl : Nat} {as : List Nat} {F : M Fl} (Fn : Fun K x qual st f fd) (S : FnScope N ps (defScope st))
    (hps : ps.length = np) (hN : N.length = np + nl)
    (body : ∀ (cdv : Value) (A : Around) (outer : List Env) (s : Shared) (H : Hp) (E : XK), A.guards = some [] → Room k (A.deeper (envOfC qual (defScope st) s.heap.objs.size f cdv)) →
      Takes (cxOf (L2.CX P w) P w K mg base N qual (defScope st) f cdv A outer s H E) (fun c d _ H => E c d H) →
      PassesOwn (model P w) (cxOf (L2.CX P w) P w K mg base N qual (defScope st) f cdv A outer s H E).A (cxOf (L2.CX P w) P w K mg base N qual (defScope st) f cdv A outer s H E).env (cxOf (L2.CX P w) P w K mg base N qual (defScope st) f cdv A outer s H E).xe →
      PSs (cxOf (L2.CX P w) P w K mg base N qual (defScope st) f cdv A outer s H E) (defBody st) (TSF T (fun c d _ H => E c d H) as F)) :
    FnG P w K mg base (k + 1) f fd ps (spF T np (fnM np nl as F)) := by
  refine fn_ofG Fn S (fun vs H Q E h => h.1.trans hps.symm) fun cdv A outer s H vs Q E hg hr hsp => ?_
  obtain ⟨hv, Z, env, r, p⟩ := hsp
  refine ⟨_, body cdv A outer s H E hg hr (takes_of rfl rfl rfl rfl) (passes_of rfl), ?_⟩
  have hst : L2.start N vs = vs.map some ++ List.replicate nl none := by
    unfold L2.start
    rw [hN, hv, Nat.add_sub_cancel_left]
  rw [hst]
  obtain ⟨r2, o2⟩ := r.more nl
  refine ⟨Z, _, r2, ?_⟩
  have hl : env.length = np := by rw [r.len]; simpa using hv
  have p : Post T (fun c d _ H' => E c d H') KW (vs.map some) (Owns (vs.map some) env) Z H (fnM np nl as F env) Q := p
  unfold fnM at p
  rw [if_pos hl] at p
  have up : ∀ {O' : Addr → Prop} {Z' H' : Hp}, Adv (Owns (vs.map some ++ List.replicate nl none) (env ++ List.replicate nl none)) Z H O' Z' H' → Adv (Owns (vs.map some) env) Z H O' Z' H' := fun a => a.more o2
  cases e : F (env ++ List.replicate nl none) with
  | ok fl env' =>
    rw [e] at p
    intro Z' H' σ' s1 r1
    cases fl with
    | nx =>
      intro a1
      obtain ⟨b1, b2, b3⟩ := finE_ok (P := fun _ => False) hv r s1 ((up a1).weak fun a h => h.elim id fun z => z.elim) r1 fun a z => z.elim
      exact p Z' H' .non (b1.weak fun a h => h.imp id fun z => by simp [KW, W.own] at z) b2 rfl fun a z => by simp [KW, W.own] at z
    | brk => exact p.elim
    | cont => exact p.elim
    | ret w0 =>
      intro v a1 k1 x1
      obtain ⟨b1, b2, b3⟩ := finE_ok (P := KW.ext v w0) hv r s1 (up a1) r1 x1
      exact p Z' H' v b1 b2 k1 b3
  | exc c ns ds env' =>
    rw [e] at p
    intro Z' H' σ' cls dd s1 a1 r1 k1
    obtain ⟨b1, b2, b3⟩ := finE_ok (P := fun _ => False) hv r s1 ((up a1).weak fun a h => h.elim id fun z => z.elim) r1 fun a z => z.elim
    exact p Z' H' cls dd (b1.weak fun a h => .inl h) b2 k1
  | bad =>
    rw [e] at p
    exact p
end Wc
namespace Wc
open PySem PySem.Spec PyProof.Rows L2
def PAr (X : Cx) (T : Cl) (Wx : WX) (es : List Expr) (as : List (Sum Nat (M D))) : Prop := ∃ t, PArgs X T Wx es as t
def PIt (X : Cx) (T : Cl) (Wx : WX) (es : List Expr) (r : List (M D)) : Prop := ∃ t, PItems X T Wx es r t
def GTe (X : Cx) (T : Cl) (as : List Nat) (tg : Expr) (t : Tg) : Prop := ∃ g, GT X T as tg t g
def GTse (X : Cx) (T : Cl) (as : List Nat) (tgs : List Expr) (ts : List Tg) : Prop := ∃ g, GTs X T as tgs ts g
section
variable {X : Cx} {T : Cl} {Wx : WX} {α : Type} {κ : Kind α V} {inj : W → α} {e o a b : Expr} {es : List Expr} {as : List (Sum Nat (M D))} {r : List (M D)} {f g : M D} {i k np : Nat} {fa : Addr} {fd : FuncData} {ps : List Str} {x m : Str} {p pos apos pp : Pos} {F : M W} {ss : List Nat} {tg : Expr} {t : Tg} {G : M Fl}
theorem ar_n : PAr X T Wx [] [] := ⟨_, .nil⟩
theorem ar_v (h1 : PE X e (tVar i)) (h2 : PAr X T Wx es as) (h3 : starEach (e :: es) X.env = (false, eval e X.env) :: starEach es X.env := by rfl) : PAr X T Wx (e :: es) (.inl i :: as) := h2.elim fun _ h => ⟨_, .var h1 h h3⟩
theorem ar_d (h1 : PE X e (TF T Wx KD f)) (h2 : PAr X T Wx es as) (h3 : starEach (e :: es) X.env = (false, eval e X.env) :: starEach es X.env := by rfl) : PAr X T Wx (e :: es) (.inr f :: as) := h2.elim fun _ h => ⟨_, .val h1 h h3⟩
theorem il_n : PIt X T Wx [] [] := ⟨_, .nil⟩
theorem il_c (h1 : PE X e (TF T Wx KD f)) (h2 : PIt X T Wx es r) (h3 : starEach (e :: es) X.env = (false, eval e X.env) :: starEach es X.env := by rfl) : PIt X T Wx (e :: es) (f :: r) := h2.elim fun _ h => ⟨_, .cons h1 h h3⟩
theorem pd_lstE (F : Fin κ inj) (A : PIt X T Wx es r) (hl : r.length ≤ lim := by decide) : PE X (.List es pos) (TF T Wx κ (lstM inj r)) := A.elim fun _ A => pd_lst F A hl
theorem pd_tupE {k1} (F : Fin κ inj) (A : PIt X T Wx es r) (hl : r.length ≤ lim := by decide) : PE X (.Tuple es k1 pos) (TF T Wx κ (tupM inj r)) := A.elim fun _ A => pd_tup F A hl
theorem pd_callE (Fg : FnG X.prog X.w X.K X.mg X.base k fa fd ps (spF T np F)) (hgd : X.A.guards = some []) (hr : Room k X.A) (tk : Takes X Wx) (hg : Gl X x) (hm : X.mg x = some (.ref fa)) (hk : PySem.W.keepIn X.K (.ref fa) = true) (hb : Binds X.K fd ps [])
    (A : PAr X T Wx (e :: es) as) (hl : as.length = np) (hdb : (x == ("__debug__" : Str)) = false := by decide)
    (he : starEach (e :: es) X.env = (false, eval e X.env) :: starEach es X.env := by rfl) (hpl : (backTo pos (starEach es X.env)).any (·.1) = false := by rfl) : PE X (.Call (.Name x pp) (e :: es) [] pos) (TF T Wx KW (callM as F)) :=
  A.elim fun _ A => pd_call Fg hgd hr tk hg hm hk hb A hl hdb he hpl
theorem pd_methE {pl : Sem Bool} {c i : Nat} (ho : PE X o (tVar i)) (cl : Cls X.K (T.ca c)) (hm : Meth X.K (T.ca c) m fa) (Fg : FnG X.prog X.w X.K X.mg X.base k fa fd ps (spF T np F)) (hgd : X.A.guards = some []) (hr : Room k X.A) (tk : Takes X Wx) (hb : Binds X.K fd ps [])
    (A : PAr X T Wx (e :: es) as) (hl : as.length + 1 = np) (hst : starEach (e :: es) X.env = (false, eval e X.env) :: starEach es X.env := by rfl) (hpl : (backTo pos (starEach es X.env)).any (·.1) = false := by rfl)
    (ht : eval (.Call (.Attribute o m apos) (e :: es) [] pos) X.env = (do
      let ov ← eval o X.env
      standAt apos.atName
      let (f, first) ← holding [ov] (getMethod ov m pl)
      callWith pos f first (backTo pos (starEach (e :: es) X.env)) (backToKw pos (keywordEach [] X.env))) := by rfl) : PE X (.Call (.Attribute o m apos) (e :: es) [] pos) (TF T Wx KW (methM c m i as F)) :=
  A.elim fun _ A => pd_meth ho cl hm Fg hgd hr tk hb A hl hst hpl ht
theorem pd_makeE {C : Nat} (Mm : L2.Mk X.K (T.ca C) fa) (Fg : FnG X.prog X.w X.K X.mg X.base k fa fd ps (spF T np F)) (hgd : X.A.guards = some []) (hr : Room (k + 1) X.A) (tk : Takes X Wx) (hg : Gl X x) (hm : X.mg x = some (.ref (T.ca C))) (hb : Binds X.K fd ps [])
    (A : PAr X T Wx (e :: es) as) (hl : as.length + 1 = np) (hdb : (x == ("__debug__" : Str)) = false := by decide)
    (he : starEach (e :: es) X.env = (false, eval e X.env) :: starEach es X.env := by rfl) (hpl : (backTo pos (starEach es X.env)).any (·.1) = false := by rfl) : PE X (.Call (.Name x pp) (e :: es) [] pos) (TF T Wx KW (makeM C as F)) :=
  A.elim fun _ A => pd_make Mm Fg hgd hr tk hg hm hb A hl hdb he hpl
theorem ge_name (hN : X.N.Nodup) (hi : X.N[i]? = some x) (hx : Loc X.env.scope x) (ha : i ∈ ss) (hf : X.fn x = true ∨ X.env.scope.names.lookup x = some .local := by first | exact .inl rfl | exact .inr rfl | assumption) : GTe X T ss (.Name x pos) (.nm i) := ⟨_, gt_name hN hi hx ha hf⟩
theorem ges_nil : GTse X T ss [] [] := ⟨_, gts_nil⟩
theorem ges_cons {t : Tg} {ts : List Tg} (h1 : GTe X T ss e t) (h2 : GTse X T ss es ts) (hs : (assignEach (e :: es) X.env).map (·.2) = assign e X.env :: (assignEach es X.env).map (·.2) := by rfl) : GTse X T ss (e :: es) (t :: ts) := h1.elim fun _ h1 => h2.elim fun _ h2 => ⟨_, gts_cons h1 h2 hs⟩
theorem ge_tup {ts : List Tg} {k n : Nat} (hc : X.calm = true) (h : GTse X T ss es ts) (hl : ts.length = n) (hn : (assignEach es X.env).length = n := by rfl) (hst : (assignEach es X.env).findIdx? (·.1) = none := by rfl) : GTe X T ss (.Tuple es k pos) (.tp ts) := h.elim fun _ h => ⟨_, gt_tup hc h hl hn hst⟩
theorem sd_asgTE (hg : GTe X T ss tg t) (he : PE X e (TF T Wx KD f)) (hs : swapsWithSole [tg] e pos.line X.env = pure false := by rfl) (hw : swappedStores [tg] e X.env = pure none := by rfl)
    (h1 : (assignEach [tg] X.env).map (·.2) = [assign tg X.env] := by rfl) : PS X (.Assign [tg] e pos) (TSF T Wx ss (asgT t f)) := hg.elim fun _ hg => sd_asgT hg he hs hw h1
theorem sd_forE {iter : Expr} {body : List Stmt} {it : M (List D)} (hp : PassesOwn (model X.prog X.w) X.A X.env X.xe) (hc : X.calm = true) (hi : PI X tg iter (TF T Wx (KI none') it)) (hg : GTe X T ss tg t) (hb : PSs X body (TSF T Wx ss G))
    (hs : ∀ x, foldedSetIterable iter X.env x = pure x := by intro _; rfl) : PS X (.For tg iter body [] pos) (TSF T Wx ss (it >>= forM t G)) := hg.elim fun _ hg => sd_for hp hc hi hg hb hs
theorem sd_forNE {iter : Expr} {body : List Stmt} (hp : PassesOwn (model X.prog X.w) X.A X.env X.xe) (hc : X.calm = true) (hi : PE X iter (tVar i)) (hia : i ∉ ss) (hg : GTe X T ss tg t) (hb : PSs X body (TSF T Wx ss G))
    (hs : ∀ x, foldedSetIterable iter X.env x = pure x := by intro _; rfl) : PS X (.For tg iter body [] pos) (TSF T Wx ss (forN i t G)) := hg.elim fun _ hg => sd_forN hp hc hi hia hg hb hs
end
end Wc
namespace Wc
open PySem L2
/-- it ends well, with what is wanted (a box: nothing looks into it by computing) -/
inductive Wp {α : Type} : R α → (α → Env' → Prop) → Prop
  | mk {a : α} {e : Env'} {Q : α → Env' → Prop} (h : Q a e) : Wp (.ok a e) Q
section
variable {α β : Type} {e e1 : Env'} {i j k : Nat}
theorem Wp.get {r : R α} {Q : α → Env' → Prop} (h : Wp r Q) : ∃ a e, r = .ok a e ∧ Q a e := by
  cases h with
  | mk h => exact ⟨_, _, rfl, h⟩
theorem Wp.of {r : R α} {Q : α → Env' → Prop} {a : α} (h : r = .ok a e) (q : Q a e) : Wp r Q := by rw [h]; exact .mk q
theorem Wp.mono {r : R α} {Q Q' : α → Env' → Prop} (h : Wp r Q) (k : ∀ a e, Q a e → Q' a e) : Wp r Q' := by
  cases h with
  | mk h => exact .mk (k _ _ h)
@[simp] theorem w_ok {a : α} {Q : α → Env' → Prop} : Wp (.ok a e) Q ↔ Q a e := ⟨fun h => by cases h; assumption, .mk⟩
@[simp] theorem w_exc {c : Nat} {ns : List Str} {ds : List D} {Q : α → Env' → Prop} : Wp (.exc c ns ds e) Q ↔ False := ⟨fun h => (by obtain ⟨_, _, q, _⟩ := h.get; cases q), False.elim⟩
@[simp] theorem w_bad {Q : α → Env' → Prop} : Wp .bad Q ↔ False := ⟨fun h => (by obtain ⟨_, _, q, _⟩ := h.get; cases q), False.elim⟩
theorem w_rb {r : R α} {k : α → Env' → R β} {Q : β → Env' → Prop} : Wp (R.bind r k) Q ↔ Wp r fun a e' => Wp (k a e') Q := by cases r <;> simp [R.bind]
@[simp] theorem w_bind {f : M α} {g : α → M β} {Q : β → Env' → Prop} : Wp ((f >>= g) e) Q ↔ Wp (f e) fun a e' => Wp (g a e') Q := w_rb
@[simp] theorem w_pure {a : α} {Q : α → Env' → Prop} : Wp (M.pure a e) Q ↔ Q a e := w_ok
@[simp] theorem w_ofO {o : Option α} {Q : α → Env' → Prop} : Wp (ofO o e) Q ↔ ∃ a, o = some a ∧ Q a e := by
  cases o with
  | none => simp [ofO, stuck]
  | some a => simp [ofO, M.pure]
@[simp] theorem w_kc {d : D} {Q : D → Env' → Prop} : Wp (kc d e) Q ↔ Q d e := w_ok
@[simp] theorem w_lf {f : M D} {Q : W → Env' → Prop} : Wp (lf f e) Q ↔ Wp (f e) fun d e' => Q (.sh d) e' := by unfold lf; simp
@[simp] theorem w_fz {f : M W} {Q : D → Env' → Prop} : Wp (fz f e) Q ↔ Wp (f e) fun w e' => Q w.view e' := by unfold fz; simp
@[simp] theorem w_pk {Q : D → Env' → Prop} : Wp (pk i e) Q ↔ ∃ w, e[i]? = some (some w) ∧ Q w.view e := by
  unfold pk
  cases e[i]? with
  | none => simp
  | some o => cases o <;> simp
@[simp] theorem w_nm {Q : D → Env' → Prop} : Wp (nm i e) Q ↔ ∃ w, e[i]? = some (some w) ∧ Q w.view (e.set i (some (.sh w.view))) := by
  unfold nm
  cases e[i]? with
  | none => simp
  | some o => cases o <;> simp
@[simp] theorem w_mv {Q : W → Env' → Prop} : Wp (mv i e) Q ↔ ∃ w, e[i]? = some (some w) ∧ Q w (e.set i none) := by
  unfold mv
  cases e[i]? with
  | none => simp
  | some o => cases o <;> simp
@[simp] theorem w_m1 {inj : W → α} {op : D → Option W} {f : M D} {Q : α → Env' → Prop} : Wp (m1 inj op f e) Q ↔ Wp (f e) fun x e' => ∃ w, op x = some w ∧ Q (inj w) e' := by
  unfold m1
  simp only [w_bind, w_ofO, Option.map_eq_some_iff]
  constructor <;> intro h <;> refine h.mono fun x e' h => ?_
  · obtain ⟨a, ⟨w, h1, rfl⟩, h2⟩ := h; exact ⟨w, h1, h2⟩
  · obtain ⟨w, h1, h2⟩ := h; exact ⟨_, ⟨w, h1, rfl⟩, h2⟩
@[simp] theorem w_m2 {inj : W → α} {op : D → D → Option W} {f g : M D} {Q : α → Env' → Prop} : Wp (m2 inj op f g e) Q ↔ Wp (f e) fun x e' => Wp (g e') fun y e' => ∃ w, op x y = some w ∧ Q (inj w) e' := by
  unfold m2
  simp only [w_bind, w_ofO, Option.map_eq_some_iff]
  constructor <;> intro h <;> refine h.mono fun x e' h => h.mono fun y e' h => ?_
  · obtain ⟨a, ⟨w, h1, rfl⟩, h2⟩ := h; exact ⟨w, h1, h2⟩
  · obtain ⟨w, h1, h2⟩ := h; exact ⟨_, ⟨w, h1, rfl⟩, h2⟩
@[simp] theorem w_m2n {inj : W → α} {op : D → D → Option W} {g : M D} {Q : α → Env' → Prop} : Wp (m2n inj op i g e) Q ↔ ∃ w0, e[i]? = some (some w0) ∧ Wp (g e) fun y e' => ∃ w1, e'[i]? = some (some w1) ∧ ∃ w, op w1.view y = some w ∧ Q (inj w) e' := by
  unfold m2n
  simp only [w_bind, w_ofO, w_pk, Option.map_eq_some_iff]
  constructor <;> rintro ⟨w0, h0, h⟩ <;> refine ⟨w0, h0, h.mono fun y e' h => ?_⟩
  · obtain ⟨w1, h1, a, ⟨w, h2, rfl⟩, h3⟩ := h; exact ⟨w1, h1, w, h2, h3⟩
  · obtain ⟨w1, h1, w, h2, h3⟩ := h; exact ⟨w1, h1, _, ⟨w, h2, rfl⟩, h3⟩
@[simp] theorem w_seq {F G : M Fl} {Q : Fl → Env' → Prop} : Wp (seqM F G e) Q ↔ Wp (F e) fun fl e' => match fl with
    | .nx => Wp (G e') Q
    | fl => Q fl e' := by
  unfold seqM
  rw [w_bind]
  constructor <;> intro h <;> refine h.mono fun fl e' h => ?_ <;> cases fl <;> first | exact h | exact w_ok.mp h | exact w_ok.mpr h
@[simp] theorem w_nx {Q : Fl → Env' → Prop} : Wp (nxM e) Q ↔ Q .nx e := w_ok
@[simp] theorem w_if {b : M Bool} {F G : M Fl} {Q : Fl → Env' → Prop} : Wp (ifM b F G e) Q ↔ Wp (b e) fun c e' => if c = true then Wp (F e') Q else Wp (G e') Q := by
  unfold ifM
  rw [w_bind]
  constructor <;> intro h <;> refine h.mono fun c e' h => ?_ <;> cases c <;> first | exact h | exact w_ok.mp h | exact w_ok.mpr h
@[simp] theorem w_ret {f : M W} {Q : Fl → Env' → Prop} : Wp (retM f e) Q ↔ Wp (f e) fun w e' => Q (.ret w) e' := by unfold retM; simp
@[simp] theorem w_drp {f : M α} {Q : Fl → Env' → Prop} : Wp (drpM f e) Q ↔ Wp (f e) fun _ e' => Q .nx e' := by unfold drpM; simp
@[simp] theorem w_setE {w : W} {Q : Fl → Env' → Prop} : Wp (setE i w e) Q ↔ i < e.length ∧ Q .nx (e.set i (some w)) := by
  unfold setE
  split
  · rename_i h; simp [h]
  · rename_i h; simp [h]
theorem w_iff {r : R α} {Q Q' : α → Env' → Prop} (h : ∀ a e, Q a e ↔ Q' a e) : Wp r Q ↔ Wp r Q' := ⟨fun q => q.mono fun a e => (h a e).1, fun q => q.mono fun a e => (h a e).2⟩
@[simp] theorem w_asg {f : M W} {Q : Fl → Env' → Prop} : Wp (asgM i f e) Q ↔ Wp (f e) fun w e' => i < e'.length ∧ Q .nx (e'.set i (some w)) := by
  show Wp (R.bind (f e) fun w => setE i w) Q ↔ _
  rw [w_rb]
  exact w_iff fun _ _ => w_setE
@[simp] theorem w_par2 {f g : M W} {Q : Fl → Env' → Prop} : Wp (par2 i j f g e) Q ↔ Wp (f e) fun x e' => Wp (g e') fun y e' => i < e'.length ∧ j < e'.length ∧ Q .nx ((e'.set i (some x)).set j (some y)) := by
  show Wp (R.bind (f e) fun x e => R.bind (g e) fun y env => R.bind (setE i x env) fun _ => setE j y) Q ↔ _
  rw [w_rb]
  refine w_iff fun x e' => ?_
  rw [w_rb]
  refine w_iff fun y e' => ?_
  rw [w_rb, w_setE, w_setE, List.length_set]
@[simp] theorem w_par3 {f g h : M W} {Q : Fl → Env' → Prop} : Wp (par3 i j k f g h e) Q ↔ Wp (f e) fun x e' => Wp (g e') fun y e' => Wp (h e') fun z e' => i < e'.length ∧ j < e'.length ∧ k < e'.length ∧ Q .nx (((e'.set i (some x)).set j (some y)).set k (some z)) := by
  show Wp (R.bind (f e) fun x e => R.bind (g e) fun y e => R.bind (h e) fun z env => R.bind (setE i x env) fun _ env => R.bind (setE j y env) fun _ => setE k z) Q ↔ _
  rw [w_rb]
  refine w_iff fun x e' => ?_
  rw [w_rb]
  refine w_iff fun y e' => ?_
  rw [w_rb]
  refine w_iff fun z e' => ?_
  rw [w_rb, w_setE, w_rb, w_setE, w_setE, List.length_set, List.length_set, List.length_set]
@[simp] theorem w_asgT {t : Tg} {f : M D} {Q : Fl → Env' → Prop} : Wp (asgT t f e) Q ↔ Wp (f e) fun d e' => ∃ e2, stT t d e' = some e2 ∧ Q .nx e2 := by
  show Wp (R.bind (f e) fun d env => match stT t d env with
    | some e => .ok .nx e
    | none => .bad) Q ↔ _
  rw [w_rb]
  refine w_iff fun d e' => ?_
  cases q : stT t d e' with
  | none => simp
  | some e2 => simp
@[simp] theorem w_tb {f : M D} {Q : Bool → Env' → Prop} : Wp (tbM f e) Q ↔ Wp (f e) fun d e' => ∃ b, boolD d = some b ∧ Q b e' := by unfold tbM; simp
@[simp] theorem w_tst {f : M D} {Q : Bool → Env' → Prop} : Wp (tstM f e) Q ↔ Wp (f e) fun d e' => ∃ b, truD d = some b ∧ Q b e' := by unfold tstM; simp
@[simp] theorem w_and {t u : M Bool} {Q : Bool → Env' → Prop} : Wp (andM t u e) Q ↔ Wp (t e) fun c e' => if c = true then Wp (u e') Q else Q false e' := by
  unfold andM; rw [w_bind]
  constructor <;> intro h <;> refine h.mono fun c e' h => ?_ <;> cases c <;> first | exact h | exact w_ok.mp h | exact w_ok.mpr h
@[simp] theorem w_or {t u : M Bool} {Q : Bool → Env' → Prop} : Wp (orM t u e) Q ↔ Wp (t e) fun c e' => if c = true then Q true e' else Wp (u e') Q := by
  unfold orM; rw [w_bind]
  constructor <;> intro h <;> refine h.mono fun c e' h => ?_ <;> cases c <;> first | exact h | exact w_ok.mp h | exact w_ok.mpr h
@[simp] theorem w_not {t : M Bool} {Q : Bool → Env' → Prop} : Wp (notM t e) Q ↔ Wp (t e) fun c e' => Q (!c) e' := by unfold notM; simp
@[simp] theorem w_ifx {t : M Bool} {f g : M α} {Q : α → Env' → Prop} : Wp (ifxM t f g e) Q ↔ Wp (t e) fun c e' => if c = true then Wp (f e') Q else Wp (g e') Q := by
  unfold ifxM; rw [w_bind]
  constructor <;> intro h <;> refine h.mono fun c e' h => ?_ <;> cases c <;> first | exact h | exact w_ok.mp h | exact w_ok.mpr h
@[simp] theorem w_andV {f g : M D} {Q : D → Env' → Prop} : Wp (andV f g e) Q ↔ Wp (f e) fun d e' => ∃ c, truD d = some c ∧ if c = true then Wp (g e') Q else Q d e' := by
  unfold andV; simp only [w_bind, w_ofO]
  constructor <;> intro h <;> refine h.mono fun d e' h => ?_ <;> obtain ⟨c, h1, h2⟩ := h <;> refine ⟨c, h1, ?_⟩ <;> cases c <;> first | exact h2 | exact w_ok.mp h2 | exact w_ok.mpr h2
@[simp] theorem w_orV {f g : M D} {Q : D → Env' → Prop} : Wp (orV f g e) Q ↔ Wp (f e) fun d e' => ∃ c, truD d = some c ∧ if c = true then Q d e' else Wp (g e') Q := by
  unfold orV; simp only [w_bind, w_ofO]
  constructor <;> intro h <;> refine h.mono fun d e' h => ?_ <;> obtain ⟨c, h1, h2⟩ := h <;> refine ⟨c, h1, ?_⟩ <;> cases c <;> first | exact h2 | exact w_ok.mp h2 | exact w_ok.mpr h2
@[simp] theorem w_notV {f : M D} {Q : D → Env' → Prop} : Wp (notV f e) Q ↔ Wp (f e) fun d e' => ∃ c, truD d = some c ∧ Q (.bl (!c)) e' := by
  unfold notV; simp only [w_bind, w_ofO, Option.map_eq_some_iff]
  constructor <;> intro h <;> refine h.mono fun d e' h => ?_
  · obtain ⟨a, ⟨c, h1, rfl⟩, h2⟩ := h; exact ⟨c, h1, h2⟩
  · obtain ⟨c, h1, h2⟩ := h; exact ⟨_, ⟨c, h1, rfl⟩, h2⟩
@[simp] theorem w_ch {o1 o2 : D → D → Option W} {f g h : M D} {Q : D → Env' → Prop} : Wp (chM o1 o2 f g h e) Q ↔ Wp (f e) fun x e' => Wp (g e') fun y e' => ∃ k, ((o1 x y).bind fun w => boolD w.view) = some k ∧ if k = true then Wp (h e') fun z e' => ∃ w, o2 y z = some w ∧ Q w.view e' else Q (.bl false) e' := by
  unfold chM
  simp only [w_bind, w_ofO]
  constructor <;> intro q <;> refine q.mono fun x e' q => q.mono fun y e' q => ?_ <;> obtain ⟨k, h1, h2⟩ := q <;> refine ⟨k, h1, ?_⟩ <;> cases k <;> simp only [if_true, if_false, Bool.false_eq_true, w_bind, w_ofO, w_pure, Option.map_eq_some_iff] at h2 ⊢ <;> first
    | exact h2
    | (refine h2.mono fun z e' h2 => ?_; obtain ⟨a, ⟨w, h3, rfl⟩, h4⟩ := h2; exact ⟨w, h3, h4⟩)
    | (refine h2.mono fun z e' h2 => ?_; obtain ⟨w, h3, h4⟩ := h2; exact ⟨_, ⟨w, h3, rfl⟩, h4⟩)
@[simp] theorem w_ar0 {Q : List Ag → Env' → Prop} : Wp (evA [] e) Q ↔ Q [] e := w_ok
@[simp] theorem w_arv {r : List (Sum Nat (M D))} {Q : List Ag → Env' → Prop} : Wp (evA (.inl i :: r) e) Q ↔ ∃ w, e[i]? = some (some w) ∧ Wp (evA r e) fun xs e' => Q (.inl i :: xs) e' := by rw [evA]; simp
@[simp] theorem w_ard {f : M D} {r : List (Sum Nat (M D))} {Q : List Ag → Env' → Prop} : Wp (evA (.inr f :: r) e) Q ↔ Wp (f e) fun d e' => Wp (evA r e') fun xs e' => Q (.inr d :: xs) e' := by rw [evA]; simp
@[simp] theorem w_apA {xs : List Ag} {F : M W} {Q : W → Env' → Prop} : Wp (apA xs F e) Q ↔ ∃ ws, getA e xs = some ws ∧ Wp (F (ws.map some)) fun w es => Q w (putA xs es (hidA xs e)) := by
  unfold apA
  cases getA e xs with
  | none => simp
  | some ws =>
    simp only [Option.some.injEq]
    cases q : F (ws.map some) with
    | ok w es => simp [q]
    | exc _ _ _ _ => simp [q]
    | bad => simp [q]
@[simp] theorem w_call {as : List (Sum Nat (M D))} {F : M W} {Q : W → Env' → Prop} : Wp (callM as F e) Q ↔ Wp (evA as e) fun xs e' => Wp (apA xs F e') Q := by unfold callM; rw [w_bind]
@[simp] theorem w_methM {c : Nat} {m : Str} {as : List (Sum Nat (M D))} {F : M W} {Q : W → Env' → Prop} : Wp (methM c m i as F e) Q ↔ ∃ w, e[i]? = some (some w) ∧ (∃ u, chkO c m w.view = some u) ∧ Wp (evA as e) fun xs e' => Wp (apA (.inl i :: xs) F e') Q := by
  unfold methM
  simp only [w_bind, w_pk, w_ofO]
  constructor
  · rintro ⟨w, h1, u, h2, h3⟩; exact ⟨w, h1, ⟨u, h2⟩, h3⟩
  · rintro ⟨w, h1, ⟨u, h2⟩, h3⟩; exact ⟨w, h1, u, h2, h3⟩
@[simp] theorem w_methV {c : Nat} {m : Str} {g : M D} {as : List (Sum Nat (M D))} {F : M W} {Q : W → Env' → Prop} : Wp (methV c m g as F e) Q ↔ Wp (g e) fun d e' => (∃ u, chkO c m d = some u) ∧ Wp (evA as e') fun xs e' => Wp (apA (.inr d :: xs) F e') Q := by
  unfold methV
  simp only [w_bind, w_ofO]
  constructor <;> intro h <;> refine h.mono fun d e' h => ?_
  · obtain ⟨u, h2, h3⟩ := h; exact ⟨⟨u, h2⟩, h3⟩
  · obtain ⟨⟨u, h2⟩, h3⟩ := h; exact ⟨u, h2, h3⟩
@[simp] theorem w_apN {c : Nat} {xs : List Ag} {F : M W} {Q : W → Env' → Prop} : Wp (apN c xs F e) Q ↔ ∃ ws, getA e xs = some ws ∧ Wp (F (some (.mo c [] []) :: ws.map some)) fun w es => w = .sh .non ∧ ∃ w2 es2, es = some w2 :: es2 ∧ Q w2 (putA xs es2 (hidA xs e)) := by
  unfold apN
  cases getA e xs with
  | none => simp
  | some ws =>
    simp only [Option.some.injEq]
    cases q : F (some (.mo c [] []) :: ws.map some) with
    | exc _ _ _ es => cases es <;> simp [q]
    | bad => simp [q]
    | ok w es =>
      constructor
      · intro h
        refine ⟨ws, rfl, ?_⟩
        rw [q]
        split at h
        · rename_i w2 es2 he; cases he; exact w_ok.mpr ⟨rfl, w2, es2, rfl, w_ok.mp h⟩
        · exact (w_exc.mp h).elim
        · exact (w_bad.mp h).elim
      · rintro ⟨_, rfl, h⟩
        rw [q, w_ok] at h
        obtain ⟨rfl, w2, es2, rfl, h⟩ := h
        exact w_ok.mpr h
@[simp] theorem w_make {c : Nat} {as : List (Sum Nat (M D))} {F : M W} {Q : W → Env' → Prop} : Wp (makeM c as F e) Q ↔ Wp (evA as e) fun xs e' => Wp (apN c xs F e') Q := by unfold makeM; rw [w_bind]
@[simp] theorem w_fn {np nl : Nat} {as : List Nat} {F : M Fl} {Q : W → Env' → Prop} : Wp (fnM np nl as F e) Q ↔ e.length = np ∧ Wp (F (e ++ List.replicate nl none)) fun fl e' => match fl with
    | .ret w => Q w (finE as np e e')
    | .nx => Q (.sh .non) (finE as np e e')
    | _ => False := by
  unfold fnM
  by_cases h : e.length = np
  · rw [if_pos h]
    simp only [h, true_and]
    cases q : F (e ++ List.replicate nl none) with
    | ok fl e' => cases fl <;> first | exact w_ok.trans w_ok.symm | simp
    | exc _ _ _ _ => simp
    | bad => simp
  · rw [if_neg h]
    simp [h]
def fin1 (as : List Nat) (e e' : Env') (i : Nat) : Option W := if as.contains i = true then (match e[i]? with
  | some (some (.sh d)) => some (.sh d)
  | _ => none) else (e'[i]?).join
@[simp] theorem fin_1 {as : List Nat} {e e' : Env'} : finE as 1 e e' = [fin1 as e e' 0] := rfl
@[simp] theorem fin_2 {as : List Nat} {e e' : Env'} : finE as 2 e e' = [fin1 as e e' 0, fin1 as e e' 1] := rfl
@[simp] theorem fin_3 {as : List Nat} {e e' : Env'} : finE as 3 e e' = [fin1 as e e' 0, fin1 as e e' 1, fin1 as e e' 2] := rfl
@[simp] theorem fin_4 {as : List Nat} {e e' : Env'} : finE as 4 e e' = [fin1 as e e' 0, fin1 as e e' 1, fin1 as e e' 2, fin1 as e e' 3] := rfl
@[simp] theorem fin_5 {as : List Nat} {e e' : Env'} : finE as 5 e e' = [fin1 as e e' 0, fin1 as e e' 1, fin1 as e e' 2, fin1 as e e' 3, fin1 as e e' 4] := rfl
@[simp] theorem w_evl0 {Q : List D → Env' → Prop} : Wp (evL [] e) Q ↔ Q [] e := w_ok
@[simp] theorem w_evlc {f : M D} {r : List (M D)} {Q : List D → Env' → Prop} : Wp (evL (f :: r) e) Q ↔ Wp (f e) fun d e' => Wp (evL r e') fun ds e' => Q (d :: ds) e' := by rw [evL]; simp
@[simp] theorem w_lst {inj : W → α} {r : List (M D)} {Q : α → Env' → Prop} : Wp (lstM inj r e) Q ↔ Wp (evL r e) fun ds e' => Q (inj (.ml ds)) e' := by unfold lstM; simp
@[simp] theorem w_tup {inj : W → α} {r : List (M D)} {Q : α → Env' → Prop} : Wp (tupM inj r e) Q ↔ Wp (evL r e) fun ds e' => Q (inj (.sh (.tup ds))) e' := by unfold tupM; simp
@[simp] theorem w_noE {Q : Option Int → Env' → Prop} : Wp (noE e) Q ↔ Q none e := w_ok
end
end Wc
namespace Wc
open PySem L2
section
variable {α β : Type} {e e1 : Env'} {i j k : Nat}
@[simp] theorem w_wr {op : List D → Option (List D)} {y : β} {Q : β → Env' → Prop} : Wp (wrE i op y e) Q ↔ ∃ xs ys, e[i]? = some (some (.ml xs)) ∧ op xs = some ys ∧ ys.length ≤ lim ∧ Q y (e.set i (some (.ml ys))) := by
  unfold wrE
  split
  · rename_i xs h
    cases q : op xs with
    | none =>
      simp only [w_bad, false_iff]
      rintro ⟨xs', ys, h1, h2, _⟩
      rw [h] at h1; cases h1; rw [q] at h2; cases h2
    | some ys =>
      simp only
      split
      · rename_i hl
        constructor
        · intro z; exact ⟨xs, ys, h, q, hl, w_ok.mp z⟩
        · rintro ⟨xs', ys', h1, h2, _, z⟩
          rw [h] at h1; cases h1; rw [q] at h2; cases h2; exact w_ok.mpr z
      · rename_i hl
        simp only [w_bad, false_iff]
        rintro ⟨xs', ys', h1, h2, h3, _⟩
        rw [h] at h1; cases h1; rw [q] at h2; cases h2; exact hl h3
  · rename_i h
    simp only [w_bad, false_iff]
    rintro ⟨xs', ys, h1, _⟩
    exact h xs' h1
def intO : D → Option Int
  | .int j => some j
  | _ => none
@[simp] theorem intO_int {j : Int} : intO (.int j) = some j := rfl
theorem intO_eq (d : D) : (match d with | .int j => some j | _ => none) = intO d := by cases d <;> rfl
@[simp] theorem w_setI {k f : M D} {Q : Fl → Env' → Prop} : Wp (setI i k f e) Q ↔ Wp (f e) fun y e' => ∃ w, e'[i]? = some (some w) ∧ Wp (k e') fun d e' => ∃ j, intO d = some j ∧ ∃ xs n, e'[i]? = some (some (.ml xs)) ∧ ixN xs.length j = some n ∧ xs.length ≤ lim ∧ Q .nx (e'.set i (some (.ml (xs.set n y)))) := by
  show Wp (R.bind (f e) fun y e => R.bind (pk i e) fun _ e => R.bind (k e) fun d e => R.bind (ofO (match d with | .int j => some j | _ => none) e) fun j => wrE i (fun xs => (ixN xs.length j).map fun n => xs.set n y) Fl.nx) Q ↔ _
  rw [w_rb]
  refine w_iff fun y e' => ?_
  rw [w_rb, w_pk]
  refine exists_congr fun w => and_congr_right fun _ => ?_
  rw [w_rb]
  refine w_iff fun d e' => ?_
  rw [w_rb, w_ofO, intO_eq]
  refine exists_congr fun j => and_congr_right fun _ => ?_
  rw [w_wr]
  constructor
  · rintro ⟨xs, ys, h1, h2, h3, h4⟩
    obtain ⟨n, h5, rfl⟩ := Option.map_eq_some_iff.mp h2
    exact ⟨xs, n, h1, h5, by simpa using h3, h4⟩
  · rintro ⟨xs, n, h1, h2, h3, h4⟩
    exact ⟨xs, _, h1, by rw [h2]; rfl, by simpa using h3, h4⟩
@[simp] theorem w_augI {k f : M D} {Q : Fl → Env' → Prop} : Wp (augI i k f e) Q ↔ ∃ w, e[i]? = some (some w) ∧ Wp (k e) fun d e' => ∃ j, intO d = some j ∧ ∃ w1, e'[i]? = some (some w1) ∧ ∃ n, ixLi w1.view j = some n ∧ Wp (f e') fun y e' => ∃ m, intO y = some m ∧
    ∃ xs q, e'[i]? = some (some (.ml xs)) ∧ ixN xs.length j = some q ∧ xs.length ≤ lim ∧ Q .nx (e'.set i (some (.ml (xs.set q (.int (n + m)))))) := by
  show Wp (R.bind (pk i e) fun _ e => R.bind (k e) fun d e => R.bind (ofO (match d with | .int j => some j | _ => none) e) fun j e => R.bind (pk i e) fun xs e => R.bind (ofO (ixLi xs j) e) fun n e => R.bind (f e) fun y e => R.bind (ofO (match y with | .int m => some m | _ => none) e) fun m => wrE i (fun xs => (ixN xs.length j).map fun q => xs.set q (.int (n + m))) Fl.nx) Q ↔ _
  rw [w_rb, w_pk]
  refine exists_congr fun w => and_congr_right fun _ => ?_
  rw [w_rb]
  refine w_iff fun d e' => ?_
  rw [w_rb, w_ofO, intO_eq]
  refine exists_congr fun j => and_congr_right fun _ => ?_
  rw [w_rb, w_pk]
  refine exists_congr fun w1 => and_congr_right fun _ => ?_
  rw [w_rb, w_ofO]
  refine exists_congr fun n => and_congr_right fun _ => ?_
  rw [w_rb]
  refine w_iff fun y e' => ?_
  rw [w_rb, w_ofO, intO_eq]
  refine exists_congr fun m => and_congr_right fun _ => ?_
  rw [w_wr]
  constructor
  · rintro ⟨xs, ys, h1, h2, h3, h4⟩
    obtain ⟨q, h5, rfl⟩ := Option.map_eq_some_iff.mp h2
    exact ⟨xs, q, h1, h5, by simpa using h3, h4⟩
  · rintro ⟨xs, q, h1, h2, h3, h4⟩
    exact ⟨xs, _, h1, by rw [h2]; rfl, by simpa using h3, h4⟩
@[simp] theorem w_mt1 {op : List D → D → Option (List D)} {f : M D} {Q : D → Env' → Prop} : Wp (mt1 i op f e) Q ↔ ∃ w, e[i]? = some (some w) ∧ (∃ u, isMl w.view = some u) ∧ Wp (f e) fun y e' => ∃ xs ys, e'[i]? = some (some (.ml xs)) ∧ op xs y = some ys ∧ ys.length ≤ lim ∧ Q .non (e'.set i (some (.ml ys))) := by
  show Wp (R.bind (pk i e) fun d e => R.bind (ofO (isMl d) e) fun _ e => R.bind (f e) fun y => wrE i (fun xs => op xs y) .non) Q ↔ _
  rw [w_rb, w_pk]
  refine exists_congr fun w => and_congr_right fun _ => ?_
  rw [w_rb, w_ofO]
  constructor
  · rintro ⟨u, h1, h2⟩
    rw [w_rb] at h2
    exact ⟨⟨u, h1⟩, h2.mono fun y e' h => w_wr.mp h⟩
  · rintro ⟨⟨u, h1⟩, h2⟩
    refine ⟨u, h1, ?_⟩
    rw [w_rb]
    exact h2.mono fun y e' h => w_wr.mpr h
@[simp] theorem w_mt2 {op : List D → D → D → Option (List D)} {f g : M D} {Q : D → Env' → Prop} : Wp (mt2 i op f g e) Q ↔ ∃ w, e[i]? = some (some w) ∧ (∃ u, isMl w.view = some u) ∧ Wp (f e) fun x e' => Wp (g e') fun y e' => ∃ xs ys, e'[i]? = some (some (.ml xs)) ∧ op xs x y = some ys ∧ ys.length ≤ lim ∧ Q .non (e'.set i (some (.ml ys))) := by
  show Wp (R.bind (pk i e) fun d e => R.bind (ofO (isMl d) e) fun _ e => R.bind (f e) fun x e => R.bind (g e) fun y => wrE i (fun xs => op xs x y) .non) Q ↔ _
  rw [w_rb, w_pk]
  refine exists_congr fun w => and_congr_right fun _ => ?_
  rw [w_rb, w_ofO]
  constructor
  · rintro ⟨u, h1, h2⟩
    rw [w_rb] at h2
    exact ⟨⟨u, h1⟩, h2.mono fun x e' h => by rw [w_rb] at h; exact h.mono fun y e' h => w_wr.mp h⟩
  · rintro ⟨⟨u, h1⟩, h2⟩
    refine ⟨u, h1, ?_⟩
    rw [w_rb]
    exact h2.mono fun x e' h => by rw [w_rb]; exact h.mono fun y e' h => w_wr.mpr h
@[simp] theorem w_setF {c : Nat} {n : Str} {f : M D} {Q : Fl → Env' → Prop} : Wp (setF i c n f e) Q ↔ Wp (f e) fun y e' => ∃ ns ds, e'[i]? = some (some (.mo c ns ds)) ∧ ns.length < 1000 ∧ Q .nx (e'.set i (some (.mo c (putN n ns) (putD n y ns ds)))) := by
  show Wp (R.bind (f e) fun y env => match env[i]? with
    | some (some (.mo c' ns ds)) => if c = c' ∧ ns.length < 1000 then .ok .nx (env.set i (some (.mo c (putN n ns) (putD n y ns ds)))) else .bad
    | _ => .bad) Q ↔ _
  rw [w_rb]
  refine w_iff fun y e' => ?_
  split
  · rename_i c' ns ds h
    split
    · rename_i hc
      obtain ⟨rfl, hl⟩ := hc
      constructor
      · intro z; exact ⟨ns, ds, h, hl, w_ok.mp z⟩
      · rintro ⟨ns', ds', h1, _, z⟩
        rw [h] at h1; cases h1; exact w_ok.mpr z
    · rename_i hc
      simp only [w_bad, false_iff]
      rintro ⟨ns', ds', h1, h2, _⟩
      rw [h] at h1; cases h1; exact hc ⟨rfl, h2⟩
  · rename_i h
    simp only [w_bad, false_iff]
    rintro ⟨ns', ds', h1, _⟩
    exact h _ _ _ h1
@[simp] theorem w_slM {inj : W → α} {f : M D} {l u : M (Option Int)} {Q : α → Env' → Prop} : Wp (slM inj f l u e) Q ↔ Wp (f e) fun d e' => Wp (l e') fun lo e' => Wp (u e') fun hi e' => ∃ w, slD d lo hi = some w ∧ Q (inj w) e' := by
  unfold slM
  simp only [w_bind, w_ofO, Option.map_eq_some_iff]
  constructor <;> intro h <;> refine h.mono fun d e' h => h.mono fun lo e' h => h.mono fun hi e' h => ?_
  · obtain ⟨a, ⟨w, h1, rfl⟩, h2⟩ := h; exact ⟨w, h1, h2⟩
  · obtain ⟨w, h1, h2⟩ := h; exact ⟨_, ⟨w, h1, rfl⟩, h2⟩
@[simp] theorem w_slN {inj : W → α} {l u : M (Option Int)} {Q : α → Env' → Prop} : Wp (slN inj i l u e) Q ↔ ∃ w0, e[i]? = some (some w0) ∧ Wp (l e) fun lo e' => Wp (u e') fun hi e' => ∃ w1, e'[i]? = some (some w1) ∧ ∃ w, slD w1.view lo hi = some w ∧ Q (inj w) e' := by
  unfold slN
  simp only [w_bind, w_ofO, w_pk, Option.map_eq_some_iff]
  constructor <;> rintro ⟨w0, h0, h⟩ <;> refine ⟨w0, h0, h.mono fun lo e' h => h.mono fun hi e' h => ?_⟩
  · obtain ⟨w1, h1, a, ⟨w, h2, rfl⟩, h3⟩ := h; exact ⟨w1, h1, w, h2, h3⟩
  · obtain ⟨w1, h1, w, h2, h3⟩ := h; exact ⟨w1, h1, _, ⟨w, h2, rfl⟩, h3⟩
@[simp] theorem w_someE {f : M D} {Q : Option Int → Env' → Prop} : Wp (someE f e) Q ↔ Wp (f e) fun d e' => ∃ j, intO d = some j ∧ Q (some j) e' := by
  unfold someE
  rw [w_bind]
  refine w_iff fun d e' => ?_
  rw [w_ofO]
  cases d <;> simp [intO]
@[simp] theorem w_itM {p : D → Option (List D)} {f : M D} {Q : List D → Env' → Prop} : Wp (itM p f e) Q ↔ Wp (f e) fun d e' => ∃ xs, p d = some xs ∧ Q xs e' := by unfold itM; simp
@[simp] theorem w_itM2 {p : D → D → Option (List D)} {f g : M D} {Q : List D → Env' → Prop} : Wp (itM2 p f g e) Q ↔ Wp (f e) fun d e' => Wp (g e') fun d2 e' => ∃ xs, p d d2 = some xs ∧ Q xs e' := by unfold itM2; simp
def flQ (I Q : Env' → Prop) (Qr : W → Env' → Prop) : Fl → Env' → Prop
  | .nx, e => I e
  | .cont, e => I e
  | .brk, e => Q e
  | .ret w, e => Qr w e
theorem wp_for {t : Tg} {F : M Fl} {Q : Fl → Env' → Prop} (items : List D) (I : Nat → Env' → Prop) (h0 : I 0 e)
    (hs : ∀ n d e, items[n]? = some d → I n e → ∃ e1, stT t d e = some e1 ∧ Wp (F e1) (flQ (I (n + 1)) (Q .nx) fun w => Q (.ret w)))
    (hd : ∀ e, I items.length e → Q .nx e) : Wp (forM t F items e) Q := by
  induction items generalizing e I with
  | nil => exact w_ok.mpr (hd e h0)
  | cons d ds ih =>
    obtain ⟨e1, h1, h2⟩ := hs 0 d e rfl h0
    unfold forM
    simp only [h1]
    obtain ⟨fl, e2, h3, h4⟩ := h2.get
    rw [h3]
    have go : I 1 e2 → Wp (forM t F ds e2) Q := fun q => ih (fun n => I (n + 1)) q (fun n d e hn hi => hs (n + 1) d e (by simpa using hn) hi) hd
    cases fl with
    | nx => exact go h4
    | cont => exact go h4
    | brk => exact w_ok.mpr h4
    | ret w => exact w_ok.mpr h4
theorem wp_forN {t : Tg} {F : M Fl} {Q : Fl → Env' → Prop} {w : W} {items : List D} (hi : e[i]? = some (some w)) (hv : itL w.view = some items)
    (h : Wp (forM t F items (e.set i none)) fun fl e' => Q fl (e'.set i (some w))) : Wp (forN i t F e) Q := by
  unfold forN
  simp only [hi, hv]
  obtain ⟨fl, e2, h1, h2⟩ := h.get
  rw [h1]
  exact w_ok.mpr h2
theorem wp_lcGo {own : List Nat} {t : Tg} {b : M Bool} {f : M D} {Q : List D → Env' → Prop} (items : List D) (acc : List D) (I : Nat → List D → Env' → Prop) (h0 : I 0 acc (wipE e own))
    (hs : ∀ n d acc e, items[n]? = some d → I n acc e → ∃ e1, stT t d e = some e1 ∧ Wp (b e1) fun c e2 => if c = true then Wp (f e2) fun y e3 => I (n + 1) (acc ++ [y]) (wipE e3 own) else I (n + 1) acc (wipE e2 own))
    (hd : ∀ xs e, I items.length (acc ++ xs) (wipE e own) → Q xs e) : Wp (lcGo own t b f items e) Q := by
  induction items generalizing e I acc Q with
  | nil => exact w_ok.mpr <| hd [] e (by rw [List.append_nil]; exact h0)
  | cons d ds ih =>
    obtain ⟨e1, h1, h2⟩ := hs 0 d acc _ rfl h0
    unfold lcGo
    simp only [h1]
    obtain ⟨c, e2, h3, h4⟩ := h2.get
    rw [h3]
    cases c with
    | false => exact ih acc (fun n => I (n + 1)) h4 (fun n d acc e hn hi => hs (n + 1) d acc e (by simpa using hn) hi) hd
    | true =>
      have h4 : Wp (f e2) fun y e3 => I 1 (acc ++ [y]) (wipE e3 own) := h4
      obtain ⟨y, e3, h5, h6⟩ := h4.get
      simp only [h5]
      have := ih (Q := fun xs e => Q (y :: xs) e) (acc ++ [y]) (fun n => I (n + 1)) h6 (fun n d acc e hn hi => hs (n + 1) d acc e (by simpa using hn) hi) (fun xs e q => hd (y :: xs) e (by simpa using q))
      obtain ⟨ys, e4, h7, h8⟩ := this.get
      rw [h7]
      exact w_ok.mpr h8
theorem wp_lc {own : List Nat} {t : Tg} {b : M Bool} {f : M D} {items : List D} {Q : W → Env' → Prop} (I : Nat → List D → Env' → Prop) (h0 : I 0 [] (wipE e own))
    (hs : ∀ n d acc e, items[n]? = some d → I n acc e → ∃ e1, stT t d e = some e1 ∧ Wp (b e1) fun c e2 => if c = true then Wp (f e2) fun y e3 => I (n + 1) (acc ++ [y]) (wipE e3 own) else I (n + 1) acc (wipE e2 own))
    (hd : ∀ xs e', I items.length xs e' → Q (.ml xs) (rstE e e' own)) : Wp (lcM own t b f items e) Q := by
  have := wp_lcGo (Q := fun xs e' => Q (.ml xs) (rstE e (wipE e' own) own)) items [] I h0 hs fun xs e' q => hd _ _ (by simpa using q)
  obtain ⟨xs, e2, h1, h2⟩ := this.get
  unfold lcM
  rw [h1]
  exact w_ok.mpr h2
theorem wp_lcN {own : List Nat} {t : Tg} {b : M Bool} {f : M D} {items : List D} {Q : W → Env' → Prop} {w : W} (hi : e[i]? = some (some w)) (hv : itL w.view = some items)
    (h : Wp (lcM own t b f items (e.set i none)) fun u e' => Q u (e'.set i (some w))) : Wp (lcN i own t b f e) Q := by
  unfold lcN
  simp only [hi, hv]
  obtain ⟨u, e2, h1, h2⟩ := h.get
  rw [h1]
  exact w_ok.mpr h2
@[simp] theorem w_yes {Q : Bool → Env' → Prop} : Wp (yesM e) Q ↔ Q true e := w_ok
theorem wp_goA {own : List Nat} {t : Tg} {A : M (List D)} {Q : List D → Env' → Prop} (items : List D) (acc : List D) (I : Nat → List D → Env' → Prop) (h0 : I 0 acc (wipE e own))
    (hs : ∀ n d acc e, items[n]? = some d → I n acc e → ∃ e1, stT t d e = some e1 ∧ Wp (A e1) fun ys e2 => I (n + 1) (acc ++ ys) (wipE e2 own))
    (hd : ∀ xs e, I items.length (acc ++ xs) e → Q xs e) : Wp (lcGoA own t A items e) Q := by
  induction items generalizing e I acc Q with
  | nil => exact w_ok.mpr <| hd [] _ (by rw [List.append_nil]; exact h0)
  | cons d ds ih =>
    obtain ⟨e1, h1, h2⟩ := hs 0 d acc _ rfl h0
    unfold lcGoA
    simp only [h1]
    obtain ⟨ys, e2, h3, h4⟩ := h2.get
    rw [h3]
    have := ih (Q := fun xs e => Q (ys ++ xs) e) (acc ++ ys) (fun n => I (n + 1)) h4 (fun n d acc e hn hi => hs (n + 1) d acc e (by simpa using hn) hi) (fun xs e q => hd (ys ++ xs) e (by simpa using q))
    obtain ⟨zs, e4, h7, h8⟩ := this.get
    simp only [h7]
    exact w_ok.mpr h8
@[simp] theorem w_oneA {b : M Bool} {f : M D} {Q : List D → Env' → Prop} : Wp (oneA b f e) Q ↔ Wp (b e) fun c e' => if c = true then Wp (f e') fun y e' => Q [y] e' else Q [] e' := by
  unfold oneA; rw [w_bind]
  refine w_iff fun c e' => ?_
  cases c <;> simp
@[simp] theorem w_inA {b : M Bool} {vs : List Nat} {it : M (List D)} {t : Tg} {A : M (List D)} {Q : List D → Env' → Prop} : Wp (inA b vs it t A e) Q ↔ Wp (b e) fun c e' => if c = true then Wp (it e') fun items e' => Wp (lcGoA vs t A items e') Q else Q [] e' := by
  unfold inA; rw [w_bind]
  refine w_iff fun c e' => ?_
  cases c <;> simp
end
end Wc
namespace Wc
open PySem L2
theorem exG {α : Type} {p : α → Prop} (h : ∃ x, p x) : ∃ x, p x := h
theorem anG {a b : Prop} (h : a ∧ b) : a ∧ b := h
theorem ite_t {A B : Prop} {i : Decidable (true = true)} (h : A) : @ite Prop (true = true) i A B := by rw [if_pos rfl]; exact h
theorem ite_f {A B : Prop} {i : Decidable (false = true)} (h : B) : @ite Prop (false = true) i A B := by rw [if_neg (fun z => Bool.noConfusion z)]; exact h
theorem ite_T {b : Bool} {A B : Prop} {i : Decidable (b = true)} (q : b = true) (h : A) : @ite Prop (b = true) i A B := by rw [if_pos q]; exact h
theorem ite_F {b : Bool} {A B : Prop} {i : Decidable (b = true)} (q : b = false) (h : B) : @ite Prop (b = true) i A B := by rw [if_neg (fun z => Bool.noConfusion (q.symm.trans z))]; exact h
theorem ite_b {b : Bool} {A B : Prop} {i : Decidable (b = true)} (h1 : b = true → A) (h2 : b = false → B) : @ite Prop (b = true) i A B := by
  cases b
  · exact ite_f (h2 rfl)
  · exact ite_t (h1 rfl)
theorem ite_dec {p : Prop} [Decidable p] {A B : Prop} {i : Decidable (decide p = true)} (h1 : p → A) (h2 : ¬ p → B) : @ite Prop (decide p = true) i A B := by
  by_cases h : p
  · exact ite_T (decide_eq_true h) (h1 h)
  · exact ite_F (decide_eq_false h) (h2 h)
theorem ite_nn {A B : Prop} {i : Decidable (D.isNon .non = true)} (h : A) : @ite Prop (D.isNon .non = true) i A B := ite_T (b := D.isNon .non) rfl h
theorem ite_ni {A B : Prop} {n : Int} {i : Decidable (D.isNon (.int n) = true)} (h : B) : @ite Prop (D.isNon (.int n) = true) i A B := ite_F (b := D.isNon (.int n)) rfl h
theorem ite_ns {A B : Prop} {n : List Nat} {i : Decidable (D.isNon (.str n) = true)} (h : B) : @ite Prop (D.isNon (.str n) = true) i A B := ite_F (b := D.isNon (.str n)) rfl h
theorem view_sh {d : D} : (W.sh d).view = d := rfl
theorem view_ml {xs : List D} : (W.ml xs).view = .lst xs := rfl
theorem view_mo {c : Nat} {ns : List Str} {xs : List D} : (W.mo c ns xs).view = .obj c ns xs := rfl
theorem modD_pos {i j : Int} (h : 0 < j) : modD (.int i) (.int j) = some (.sh (.int (i % j))) := if_pos h
theorem fdivD_pos {i j : Int} (h : 0 < j) (h2 : j < 1073741824) : fdivD (.int i) (.int j) = some (.sh (.int (i / j))) := if_pos ⟨h, h2⟩
theorem mulD_r {i j : Int} (h : -(2 ^ 64) < j) (h2 : j < 2 ^ 64) : mulD (.int i) (.int j) = some (.sh (.int (i * j))) := if_pos (by unfold mulI; simp only [Bool.or_eq_true, Bool.and_eq_true, decide_eq_true_eq]; exact .inr ⟨h, h2⟩)
theorem mulD_l {i j : Int} (h : -(2 ^ 64) < i) (h2 : i < 2 ^ 64) : mulD (.int i) (.int j) = some (.sh (.int (i * j))) := if_pos (by unfold mulI; simp only [Bool.or_eq_true, Bool.and_eq_true, decide_eq_true_eq]; exact .inl ⟨h, h2⟩)
theorem itR1_ex {j : Int} {Q : List D → Prop} (h0 : 0 ≤ j) (h : j ≤ 16777216) (q : Q (rng 0 j.toNat)) : ∃ xs, itR1 (.int j) = some xs ∧ Q xs := by
  refine ⟨_, if_pos ⟨?_, ?_⟩, q⟩
  · unfold inr
    simp only [Bool.and_eq_true, decide_eq_true_eq]
    omega
  · show j.toNat ≤ 16777216
    omega
theorem rng_get {n k : Nat} {d : D} (h : (rng 0 n)[k]? = some d) : k < n ∧ d = .int k := by
  unfold rng at h
  rw [List.getElem?_map] at h
  rcases Nat.lt_or_ge k n with q | q
  · rw [List.getElem?_range q] at h
    simp at h
    exact ⟨q, h.symm⟩
  · rw [List.getElem?_eq_none (by simpa using q)] at h
    cases h
theorem rng_len' (n : Nat) : (rng 0 n).length = n := by simp [rng]
structure Bag where
  a : Int
  b : Int
  c : Int
  cs : List Int
def Bag.w (g : Bag) : W := .ml [.int g.a, .int g.b, .int g.c, .lst (g.cs.map .int)]
structure Bag.Ok (g : Bag) : Prop where
  a0 : 0 ≤ g.a
  b0 : 0 ≤ g.b
  b1 : g.b < 2147483647
  c0 : 0 ≤ g.c
  cs : ∀ x ∈ g.cs, 0 ≤ x
  len : g.cs.length ≤ 63
theorem at_cs {g : Bag} (hg : g.Ok) (h : g.c < (g.cs.length : Int)) : ∃ x, 0 ≤ x ∧ ixD (.lst (g.cs.map .int)) (.int g.c) = some (.sh (.int x)) := by
  have h1 : g.c.toNat < g.cs.length := by have := hg.c0; omega
  refine ⟨g.cs[g.c.toNat], hg.cs _ (List.getElem_mem h1), ?_⟩
  simp only [ixD, atI, ixN, List.length_map, if_pos hg.c0, if_pos h, Option.bind_some, List.getElem?_map, List.getElem?_eq_getElem h1, Option.map_some]
theorem ix_in {xs : List D} {r : Int} (h0 : 0 ≤ r) (h1 : r < (xs.length : Int)) : ∃ d, d ∈ xs ∧ ixD (.lst xs) (.int r) = some (.sh d) := by
  have h2 : r.toNat < xs.length := by omega
  refine ⟨xs[r.toNat], List.getElem_mem h2, ?_⟩
  simp only [ixD, atI, ixN, if_pos h0, if_pos h1, Option.bind_some, List.getElem?_eq_getElem h2, Option.map_some]
theorem ix_st {s : List Nat} {r : Int} (h0 : 0 ≤ r) (h1 : r < (s.length : Int)) : ∃ c, c ∈ s ∧ ixD (.str s) (.int r) = some (.sh (.str [c])) := by
  have h2 : r.toNat < s.length := by omega
  refine ⟨s[r.toNat], List.getElem_mem h2, ?_⟩
  simp only [ixD, atI, ixN, if_pos h0, if_pos h1, Option.bind_some, List.getElem?_eq_getElem h2, Option.map_some]
def SIGNS : List (List Nat) := [[97, 98], [97, 98, 99], [120, 122], [98, 100, 102, 104, 106, 108], [109, 110, 111, 122], [97, 121], [99, 101, 103, 107, 119]]
theorem asSs_map (s : List (List Nat)) : asSs (s.map .str) = some s := by
  induction s with
  | nil => rfl
  | cons c s ih => simp only [List.map_cons, asSs, ih, Option.map_some]
theorem joinL_e : ∀ s : List Nat, TL.joinL [] (s.map fun c => [c]) = s
  | [] => rfl
  | [c] => rfl
  | c :: d :: r => by
    have := joinL_e (d :: r)
    simp only [List.map_cons] at this ⊢
    rw [TL.joinL, this]
    rfl
theorem join_chars {s : List Nat} (h : s.length ≤ 1000) : joinD [] (.lst (s.map fun c => .str [c])) = some (.sh (.str s)) := by
  have e : (s.map fun c => D.str [c]) = (s.map fun c => [c]).map D.str := by rw [List.map_map]; rfl
  rw [joinD, e, asSs_map, Option.bind_some, joinL_e, if_pos]
  rw [List.map_map, List.length_nil, Nat.mul_zero, Nat.add_zero]
  have : ∀ s : List Nat, (s.map (List.length ∘ fun c => [c])).sum = s.length := fun s => by
    induction s with
    | nil => rfl
    | cons c s ih => simp [ih]; omega
  rw [this]
  exact Nat.le_trans h (by decide)
inductive Tkn where
  | text (s : List Nat)
  | any (s : List Nat)
  | copy (f m : Nat)
  | say (f m : Nat)
  | flush
def Tkn.sz : Tkn → Nat
  | .text s => s.length
  | .any _ => 1
  | .copy _ m => m
  | .say _ m => m
  | .flush => 0
inductive Pl where
  | sign (c : Nat)
  | hole (s : List Nat)
  | copy (f : Nat)
  | say (f : Nat)
def Tkn.pls : Tkn → List Pl
  | .text s => s.map .sign
  | .any s => [.hole s]
  | .copy f m => List.replicate m (.copy f)
  | .say f m => List.replicate m (.say f)
  | .flush => []
def pls (ts : List Tkn) : List Pl := ts.flatMap Tkn.pls
theorem Tkn.pls_len (t : Tkn) : t.pls.length = t.sz := by cases t <;> simp [Tkn.pls, Tkn.sz]
/-- the flushes, one after another -/
def fls : List Tkn → Nat → List Nat → List Nat
  | [], _, acc => acc
  | .flush :: r, at_, acc => fls r at_ (if at_ ∈ acc then acc else acc ++ [at_])
  | t :: r, at_, acc => fls r (at_ + t.sz) acc
/-- needs by places -/
def pn (fs : List Nat) : List Pl → Nat → Int → Option Int
  | [], _, most => some most
  | .copy f :: r, at_, most => match (fs.filter (fun x => decide (x ≤ at_))).getLast? with
    | none => pn fs r (at_ + 1) (max most ((f : Int) - at_))
    | some b => if (f : Int) > (at_ : Int) - b then none else pn fs r (at_ + 1) most
  | _ :: r, at_, most => pn fs r (at_ + 1) most
/-- needs by tokens -/
def ln : List Tkn → Nat → Option Nat → Int → Option Int
  | [], _, _, most => some most
  | .flush :: r, at_, _, most => ln r at_ (some at_) most
  | .copy f m :: r, at_, none, most => ln r (at_ + m) none (max most ((f : Int) - at_))
  | .copy f m :: r, at_, some l, most => if (f : Int) > (at_ : Int) - l then none else ln r (at_ + m) (some l) most
  | t :: r, at_, last, most => ln r (at_ + t.sz) last most
def Tkn.d : Tkn → D
  | .text s => .tup [.str [116, 101, 120, 116], .str s]
  | .any s => .tup [.str [97, 110, 121], .str s]
  | .copy f m => .tup [.str [99, 111, 112, 121], .int f, .int m]
  | .say f m => .tup [.str [115, 97, 121], .int f, .int m]
  | .flush => .tup [.str [102, 108, 117, 115, 104]]
theorem asIs_map (l : List Int) : asIs (l.map .int) = some l := by
  induction l with
  | nil => rfl
  | cons c s ih => simp only [List.map_cons, asIs, ih, Option.map_some]
theorem asBs_map (l : List Bool) : asBs (l.map .bl) = some l := by
  induction l with
  | nil => rfl
  | cons c s ih => simp only [List.map_cons, asBs, ih, Option.map_some]
def tot (ts : List Tkn) : Nat := (ts.map Tkn.sz).sum
theorem sum_sz (ts : List Tkn) : sumD (.lst (ts.map fun t => .int (t.sz : Int))) = some (.sh (.int (tot ts))) := by
  have e : (ts.map fun t => D.int (t.sz : Int)) = (ts.map fun t => (t.sz : Int)).map .int := by rw [List.map_map]; rfl
  rw [sumD, e, asIs_map, Option.map_some]
  congr 3
  unfold tot
  induction ts with
  | nil => rfl
  | cons t ts ih => simp only [List.map_cons, List.sum_cons, ih (by rw [List.map_map]; rfl)]; omega
theorem take_succ_get {α : Type} {xs : List α} {k : Nat} {d : α} (h : xs[k]? = some d) : xs.take (k + 1) = xs.take k ++ [d] := by
  rw [List.take_succ, h]; rfl
theorem map_get {α β : Type} {f : α → β} {xs : List α} {k : Nat} {d : β} (h : (xs.map f)[k]? = some d) : ∃ t, xs[k]? = some t ∧ d = f t := by
  rw [List.getElem?_map] at h
  cases q : xs[k]? with
  | none => rw [q] at h; cases h
  | some t => rw [q] at h; exact ⟨t, rfl, (Option.some.inj h).symm⟩
def Tkn.ok (sg : List Nat) : Tkn → Prop
  | .text s => 1 ≤ s.length ∧ s.length ≤ 40 ∧ ∀ c ∈ s, c ∈ sg
  | .any s => s ≠ [] ∧ s.Sublist sg
  | .copy f m => 1 ≤ f ∧ f ≤ 12 ∧ 1 ≤ m ∧ m ≤ 40
  | .say f m => 1 ≤ f ∧ f ≤ 12 ∧ 1 ≤ m ∧ m ≤ 40
  | .flush => True
theorem wp_lc_map {α : Type} {own : List Nat} {t : Tg} {f : M D} {xs : List α} {enc : α → D} {e : Env'} {Q : W → Env' → Prop} (G : α → D)
    (hs : ∀ x ∈ xs, ∃ e1, stT t (enc x) (wipE e own) = some e1 ∧ Wp (f e1) fun y e3 => y = G x ∧ wipE e3 own = wipE e own)
    (hd : Q (.ml (xs.map G)) (rstE e (wipE e own) own)) : Wp (lcM own t yesM f (xs.map enc) e) Q := by
  refine wp_lc (fun k acc e' => acc = (xs.take k).map G ∧ e' = wipE e own) ?_ ?_ ?_
  · exact ⟨by simp, rfl⟩
  · rintro k d acc e' hk ⟨rfl, rfl⟩
    obtain ⟨x, hx, rfl⟩ := map_get hk
    obtain ⟨e1, h1, h2⟩ := hs x (List.mem_of_getElem? hx)
    refine ⟨e1, h1, ?_⟩
    refine w_yes.mpr ?_
    rw [if_pos rfl]
    refine h2.mono fun y e3 h => ?_
    obtain ⟨rfl, h⟩ := h
    refine ⟨?_, h⟩
    rw [take_succ_get hx, List.map_append]; rfl
  · rintro xs' e' ⟨rfl, rfl⟩
    rw [List.length_map, List.take_length]
    exact hd
theorem wp_goA_map {α : Type} {own : List Nat} {t : Tg} {A : M (List D)} {xs : List α} {enc : α → D} {e : Env'} {Q : List D → Env' → Prop} (G : α → List D)
    (hs : ∀ x ∈ xs, ∃ e1, stT t (enc x) (wipE e own) = some e1 ∧ Wp (A e1) fun ys e3 => ys = G x ∧ wipE e3 own = wipE e own)
    (hd : Q (xs.flatMap G) (wipE e own)) : Wp (lcGoA own t A (xs.map enc) e) Q := by
  refine wp_goA (xs.map enc) [] (fun k acc e' => acc = (xs.take k).flatMap G ∧ e' = wipE e own) ?_ ?_ ?_
  · exact ⟨by simp, rfl⟩
  · rintro k d acc e' hk ⟨rfl, rfl⟩
    obtain ⟨x, hx, rfl⟩ := map_get hk
    obtain ⟨e1, h1, h2⟩ := hs x (List.mem_of_getElem? hx)
    refine ⟨e1, h1, h2.mono fun ys e3 h => ?_⟩
    obtain ⟨rfl, h⟩ := h
    refine ⟨?_, h⟩
    rw [take_succ_get hx, List.flatMap_append]; simp
  · rintro xs' e' ⟨h, rfl⟩
    rw [List.length_map, List.take_length, List.nil_append] at h
    rw [h]
    exact hd
theorem all_bl {α : Type} (xs : List α) (p : α → Bool) : allD (.lst (xs.map fun x => .bl (p x))) = some (.sh (.bl (xs.all p))) := by
  have e : (xs.map fun x => D.bl (p x)) = (xs.map p).map .bl := by rw [List.map_map]; rfl
  rw [allD, e, asBs_map, Option.map_some, List.all_map]; rfl
theorem cut_tail (s : List Nat) : cutD s (some 1) none = s.tail := by
  unfold cutD
  rw [show (some (1 : Int)) = some ((1 : Nat) : Int) from rfl, HT.sIx_nat, HT.sIx_none]
  cases s with
  | nil => rfl
  | cons c s => simp
theorem zipS_eq : ∀ s t : List Nat, zipS s t = (s.zip t).map fun p => .tup [.str [p.1], .str [p.2]]
  | [], _ => rfl
  | _ :: _, [] => rfl
  | c :: cs, d :: ds => by rw [zipS, zipS_eq cs ds]; rfl
def risesB : List Nat → Bool
  | a :: b :: r => decide (a < b) && risesB (b :: r)
  | _ => true
theorem risesB_zip : ∀ s : List Nat, ((s.zip s.tail).all fun p => decide ([p.1] < [p.2])) = risesB s
  | [] => rfl
  | [a] => rfl
  | a :: b :: r => by
    have := risesB_zip (b :: r)
    simp only [List.tail_cons, List.zip_cons_cons, List.all_cons, risesB] at this ⊢
    rw [this]
    congr 1
    simp [List.cons_lt_cons_iff]
theorem risesB_iff : ∀ s : List Nat, risesB s = true ↔ s.Pairwise (· < ·)
  | [] => by simp [risesB]
  | [a] => by simp [risesB]
  | a :: b :: r => by
    rw [risesB, Bool.and_eq_true, decide_eq_true_eq, risesB_iff (b :: r)]
    refine Iff.trans ?_ List.pairwise_cons.symm
    constructor
    · rintro ⟨h1, h2⟩
      refine ⟨fun x hx => ?_, h2⟩
      rcases List.mem_cons.mp hx with q | q
      · omega
      · have := (List.pairwise_cons.mp h2).1 x q; omega
    · rintro ⟨h1, h2⟩
      exact ⟨h1 b List.mem_cons_self, h2⟩
def LETTERS : List Nat := [97, 98, 99, 100, 101, 102, 103, 104, 105, 106, 107, 108, 109, 110, 111, 112, 113, 114, 115, 116, 117, 118, 119, 120, 121, 122]
def sgB (s : List Nat) : Bool := decide (2 ≤ s.length) && decide (s.length ≤ 6) && s.all (fun c => decide (c ∈ LETTERS)) && risesB s
theorem SIGNS_sg : ∀ s ∈ SIGNS, sgB s = true := by decide
theorem tot_app (a b : List Tkn) : tot (a ++ b) = tot a + tot b := by simp [tot]
theorem tot_one (t : Tkn) : tot [t] = t.sz := by simp [tot]
theorem tot_cons (t : Tkn) (ts : List Tkn) : tot (t :: ts) = t.sz + tot ts := by simp [tot]
structure Good (sg : List Nat) (ts : List Tkn) : Prop where
  ok : ∀ t ∈ ts, t.ok sg
  lo : 1 ≤ tot ts
  hi : tot ts ≤ 40
  len : ts.length ≤ 1000
def Pl.d : Pl → D
  | .sign c => .tup [.str [115, 105, 103, 110], .str [c]]
  | .hole s => .tup [.str [104, 111, 108, 101], .str s]
  | .copy f => .tup [.str [99, 111, 112, 121], .int f]
  | .say f => .tup [.str [115, 97, 121], .int f]
def iL (l : List Nat) : List D := l.map fun n : Nat => .int (n : Int)
theorem in_iL {l : List Nat} {n : Nat} : inD (.int (n : Int)) (.lst (iL l)) = some (decide (n ∈ l)) := by
  unfold iL
  show (if _ then _ else _) = _
  rw [if_pos]
  · congr 1
    unfold inB
    induction l with
    | nil => rfl
    | cons a l ih =>
      rw [List.map_cons, List.any_cons, ih]
      simp only [eqS, Option.getD_some, List.mem_cons]
      by_cases h : a = n
      · subst h; simp
      · have : ((a : Int) == (n : Int)) = false := by simp; omega
        rw [this]; simp [Ne.symm h]
  · simp [D.flat]
theorem app_ex {e : Env'} {i : Nat} {xs : List D} {y : D} {Q : List D → Prop} (hi : e[i]? = some (some (.ml xs))) (hl : xs.length < 16000000) (q : Q (xs ++ [y])) :
    ∃ xs ys, e[i]? = some (some (.ml xs)) ∧ appOp xs y = some ys ∧ ys.length ≤ lim ∧ Q ys :=
  ⟨xs, _, hi, if_pos (show xs.length < 16777216 by omega), (by rw [List.length_append]; show xs.length + 1 ≤ 16777216; omega), q⟩
theorem cut_take {α : Type} (xs : List α) (n : Nat) : cutD xs none (some (n : Int)) = xs.take n := by
  unfold cutD
  rw [HT.sIx_nat, HT.sIx_none, List.drop_zero, Nat.sub_zero]
  rcases Nat.le_total n xs.length with h | h
  · rw [Nat.min_eq_left h]
  · rw [Nat.min_eq_right h, List.take_of_length_le h, List.take_of_length_le (Nat.le_refl _)]
theorem tot_take_le (ts : List Tkn) (n : Nat) : tot (ts.take n) ≤ tot ts := by
  have := tot_app (ts.take n) (ts.drop n)
  rw [List.take_append_drop] at this
  omega
theorem drop_get {α : Type} {xs : List α} {k : Nat} {x : α} (h : xs[k]? = some x) : xs.drop k = x :: xs.drop (k + 1) := by
  obtain ⟨h1, h2⟩ := List.getElem?_eq_some_iff.mp h
  rw [List.drop_eq_getElem_cons h1, h2]
theorem rep_one {x : D} {m : Nat} (h : m ≤ 1000) : mulD (.lst [x]) (.int (m : Int)) = some (.ml (List.replicate m x)) := by
  have e : (List.replicate ((m : Int)).toNat [x]).flatten = List.replicate m x := by
    rw [Int.toNat_natCast]
    induction m with
    | zero => rfl
    | succ n ih => rw [List.replicate_succ, List.flatten_cons, ih (by omega), List.replicate_succ]; rfl
  show (if repOk 1 (m : Int) = true then some (W.ml (List.replicate ((m : Int)).toNat [x]).flatten) else none) = _
  rw [e, if_pos]
  unfold repOk
  simp only [Bool.and_eq_true, decide_eq_true_eq, Int.toNat_natCast]
  refine ⟨⟨by omega, by omega⟩, ?_⟩
  show 1 * m ≤ 16777216
  omega
theorem sz_le_tot {ts : List Tkn} {t : Tkn} (h : t ∈ ts) : t.sz ≤ tot ts := by
  induction ts with
  | nil => simp at h
  | cons a ts ih =>
    rw [tot_cons]
    rcases List.mem_cons.mp h with q | q
    · subst q; omega
    · have := ih q; omega
theorem rep_ex {x : D} {m : Nat} {Q : W → Prop} (h : m ≤ 1000) (q : Q (.ml (List.replicate m x))) : ∃ w, mulD (.lst [x]) (.int (m : Int)) = some w ∧ Q w := ⟨_, rep_one h, q⟩
def oN : Option Nat → D
  | none => .non
  | some i => .int i
theorem enumF_back : ∀ {j : Nat} {xs : List D} {k : Nat} {d : D}, (enumF j xs)[k]? = some d → ∃ x, xs[k]? = some x ∧ d = .tup [.int ((j + k : Nat) : Int), x]
  | _, [], _, _, h => by simp [enumF] at h
  | j, x :: xs, 0, d, h => by simp [enumF] at h; exact ⟨x, rfl, by rw [← h]; rfl⟩
  | j, x :: xs, k + 1, d, h => by
    rw [enumF, List.getElem?_cons_succ] at h
    obtain ⟨y, h1, h2⟩ := enumF_back h
    exact ⟨y, by simpa using h1, by rw [h2, show j + 1 + k = j + (k + 1) by omega]⟩
theorem enm_get {α : Type} {f : α → D} {xs : List α} {k : Nat} {d : D} (h : (enumF 0 (xs.map f))[k]? = some d) : ∃ x, xs[k]? = some x ∧ d = .tup [.int (k : Int), f x] := by
  obtain ⟨y, h1, h2⟩ := enumF_back h
  obtain ⟨x, h3, rfl⟩ := map_get h1
  exact ⟨x, h3, by rw [h2, Nat.zero_add]⟩
end Wc
namespace Wc
open PySem L2
theorem repr_sh {d : D} (h : (reprD d).isSome = true) : ∃ s, reprD d = some (.sh (.str s)) := by
  unfold reprD at h ⊢
  cases e : toP d with
  | none => rw [e] at h; simp at h
  | some p =>
    rw [e] at h
    simp only at h ⊢
    split at h
    · rename_i q; rw [if_pos q]; exact ⟨_, rfl⟩
    · simp at h
theorem mul_chr {c m : Nat} (h : m ≤ 1000) : mulD (.str [c]) (.int (m : Int)) = some (.sh (.str (List.replicate m c))) := by
  have e : (List.replicate ((m : Int)).toNat [c]).flatten = List.replicate m c := by
    rw [Int.toNat_natCast]
    induction m with
    | zero => rfl
    | succ n ih => rw [List.replicate_succ, List.flatten_cons, ih (by omega), List.replicate_succ]; rfl
  show (if repOk 1 (m : Int) = true then some (W.sh (.str (List.replicate ((m : Int)).toNat [c]).flatten)) else none) = _
  rw [e, if_pos]
  unfold repOk
  simp only [Bool.and_eq_true, decide_eq_true_eq, Int.toNat_natCast]
  refine ⟨⟨by omega, by omega⟩, ?_⟩
  show 1 * m ≤ 16777216
  omega
theorem mul_ex {c m : Nat} {Q : W → Prop} (h : m ≤ 1000) (q : Q (.sh (.str (List.replicate m c)))) : ∃ w, mulD (.str [c]) (.int (m : Int)) = some w ∧ Q w := ⟨_, mul_chr h, q⟩
/-- a statement's end told, then the rest -/
theorem wp_cut {A B : M Fl} {e : Env'} {Q : Fl → Env' → Prop} (P : Env' → Prop) (h1 : Wp (A e) fun fl e' => fl = .nx ∧ P e') (h2 : ∀ e', P e' → Wp (B e') Q) : Wp (seqM A B e) Q := by
  refine w_seq.mpr (h1.mono fun fl e' h => ?_)
  obtain ⟨rfl, h⟩ := h
  exact h2 e' h
end Wc
namespace Wc
open PySem L2
def chkC (c : Nat) : D → Option Unit
  | .obj c' _ _ => if c = c' then some () else none
  | _ => none
def chkI : D → Option Unit
  | .int _ => some ()
  | _ => none
def lenW : W → Option W
  | .sh (.int n) => if 0 ≤ n ∧ n < 2 ^ 63 then some (.sh (.int n)) else none
  | _ => none
def ownM (c : Nat) (chk : D → Option Unit) (post : W → Option W) (f g : M D) (F : M W) : M W := f >>= fun x => g >>= fun y => ofO (chkC c x) >>= fun _ => ofO (chk y) >>= fun _ => apA [.inr x, .inr y] F >>= fun w => ofO (post w)
def lenM (c : Nat) (f : M D) (F : M W) : M W := f >>= fun x => ofO (chkC c x) >>= fun _ => apA [.inr x] F >>= fun w => ofO (lenW w)
section
variable {e : Env'}
@[simp] theorem w_own {c : Nat} {chk : D → Option Unit} {post : W → Option W} {f g : M D} {F : M W} {Q : W → Env' → Prop} : Wp (ownM c chk post f g F e) Q ↔ Wp (f e) fun x e' => Wp (g e') fun y e' => (∃ u, chkC c x = some u) ∧ (∃ u, chk y = some u) ∧ Wp (apA [.inr x, .inr y] F e') fun w e' => ∃ w', post w = some w' ∧ Q w' e' := by
  unfold ownM
  simp only [w_bind, w_ofO]
  constructor <;> intro h <;> refine h.mono fun x e' h => h.mono fun y e' h => ?_
  · obtain ⟨u, h1, u', h2, h3⟩ := h; exact ⟨⟨u, h1⟩, ⟨u', h2⟩, h3⟩
  · obtain ⟨⟨u, h1⟩, ⟨u', h2⟩, h3⟩ := h; exact ⟨u, h1, u', h2, h3⟩
@[simp] theorem w_len {c : Nat} {f : M D} {F : M W} {Q : W → Env' → Prop} : Wp (lenM c f F e) Q ↔ Wp (f e) fun x e' => (∃ u, chkC c x = some u) ∧ Wp (apA [.inr x] F e') fun w e' => ∃ w', lenW w = some w' ∧ Q w' e' := by
  unfold lenM
  simp only [w_bind, w_ofO]
  constructor <;> intro h <;> refine h.mono fun x e' h => ?_
  · obtain ⟨u, h1, h3⟩ := h; exact ⟨⟨u, h1⟩, h3⟩
  · obtain ⟨⟨u, h1⟩, h3⟩ := h; exact ⟨u, h1, h3⟩
end
end Wc
namespace Wc
open PySem L2
section
variable {X : Cx} {T : Cl} {Wx : WX} {tg e a b c : Expr} {f g h : M D} {p pos : Pos}
def itM3 (p : D → D → D → Option (List D)) (f g h : M D) : M (List D) := f >>= fun d => g >>= fun e => h >>= fun u => ofO (p d e u)
end
@[simp] theorem w_itM3 {e : Env'} {p : D → D → D → Option (List D)} {f g h : M D} {Q : List D → Env' → Prop} : Wp (itM3 p f g h e) Q ↔ Wp (f e) fun d e' => Wp (g e') fun d2 e' => Wp (h e') fun d3 e' => ∃ xs, p d d2 d3 = some xs ∧ Q xs e' := by unfold itM3; simp
end Wc
namespace Wc
open PySem L2
def Tkn.good : Tkn → Prop
  | .text s => s ≠ []
  | .any _ => True
  | .copy _ m => 1 ≤ m
  | .say _ m => 1 ≤ m
  | .flush => True
theorem nil_or_last {α : Type} (xs : List α) : xs = [] ∨ ∃ i l, xs = i ++ [l] := by
  rcases List.eq_nil_or_concat xs with h | ⟨i, l, h⟩
  · exact .inl h
  · exact .inr ⟨i, l, by rw [h, List.concat_eq_append]⟩
def jn : Tkn → Tkn → Option Tkn
  | .text s, .text t => some (.text (s ++ t))
  | .flush, .flush => some .flush
  | .copy f m, .copy g n => if f = g then some (.copy f (m + n)) else none
  | .say f m, .say g n => if f = g then some (.say f (m + n)) else none
  | _, _ => none
def mstep (acc : List Tkn) (t : Tkn) : List Tkn := match acc.getLast? with
  | none => acc ++ [t]
  | some l => match jn l t with
    | none => acc ++ [t]
    | some j => acc.dropLast ++ [j]
def mrg (ts : List Tkn) : List Tkn := ts.foldl mstep []
def Pl.tk : Pl → Tkn
  | .sign c => .text [c]
  | .hole s => .any s
  | .copy f => .copy f 1
  | .say f => .say f 1
def raw (fs : List Nat) : List Pl → Nat → List Tkn
  | [], at_ => if at_ ∈ fs then [.flush] else []
  | p :: r, at_ => (if at_ ∈ fs then [.flush] else []) ++ p.tk :: raw fs r (at_ + 1)
def placed (fs : List Nat) (ps : List Pl) : List Tkn := mrg (raw fs ps 0)
def un : Tkn → List Tkn
  | .text s => s.map fun c => .text [c]
  | .any s => [.any s]
  | .copy f m => List.replicate m (.copy f 1)
  | .say f m => List.replicate m (.say f 1)
  | .flush => [.flush]
theorem jn_pls {l t j : Tkn} (h : jn l t = some j) : j.pls = l.pls ++ t.pls := by
  cases l <;> cases t <;> simp only [jn] at h <;> try (cases h; done)
  · cases h; simp [Tkn.pls]
  · split at h
    · rename_i e; cases h; subst e; simp [Tkn.pls, List.replicate_append_replicate]
    · cases h
  · split at h
    · rename_i e; cases h; subst e; simp [Tkn.pls, List.replicate_append_replicate]
    · cases h
  · cases h; simp [Tkn.pls]
theorem pls_app (a b : List Tkn) : pls (a ++ b) = pls a ++ pls b := by simp [pls]
theorem pls_mstep (acc : List Tkn) (t : Tkn) : pls (mstep acc t) = pls acc ++ t.pls := by
  rcases nil_or_last acc with rfl | ⟨init, l, rfl⟩
  · simp [mstep, pls]
  · have e : (init ++ [l]).getLast? = some l := List.getLast?_concat
    cases q : jn l t with
    | none => simp only [mstep, e, q]; simp [pls]
    | some j =>
      simp only [mstep, e, q, List.dropLast_concat]
      simp [pls, jn_pls q]
theorem pls_fold : ∀ (ts acc : List Tkn), pls (ts.foldl mstep acc) = pls acc ++ pls ts
  | [], acc => by simp [pls]
  | t :: ts, acc => by rw [List.foldl_cons, pls_fold ts, pls_mstep]; simp [pls]
theorem pls_mrg (ts : List Tkn) : pls (mrg ts) = pls ts := by rw [mrg, pls_fold]; rfl
theorem fls_cons_n {t : Tkn} (h : t ≠ .flush) (r : List Tkn) (at_ : Nat) (acc : List Nat) : fls (t :: r) at_ acc = fls r (at_ + t.sz) acc := by
  cases t <;> simp [fls] at h ⊢
theorem fls_app2 : ∀ (a b : List Tkn) (at_ : Nat) (acc : List Nat), fls (a ++ b) at_ acc = fls b (at_ + tot a) (fls a at_ acc)
  | [], b, at_, acc => by simp [fls, tot]
  | t :: a, b, at_, acc => by
    by_cases h : t = .flush
    · subst h
      rw [List.cons_append, fls, fls, fls_app2 a b, tot_cons]
      simp [Tkn.sz]
    · rw [List.cons_append, fls_cons_n h, fls_cons_n h, fls_app2 a b, tot_cons]
      congr 1; omega
theorem jn_fls {l t j : Tkn} (h : jn l t = some j) (at_ : Nat) (acc : List Nat) : fls [l, t] at_ acc = fls [j] at_ acc := by
  cases l <;> cases t <;> simp only [jn] at h <;> try (cases h; done)
  · cases h; simp [fls]
  · split at h
    · cases h; simp [fls]
    · cases h
  · split at h
    · cases h; simp [fls]
    · cases h
  · cases h
    simp only [fls]
    by_cases q : at_ ∈ acc <;> simp [q]
theorem fls_mstep (acc : List Tkn) (t : Tkn) (at_ : Nat) (F : List Nat) : fls (mstep acc t) at_ F = fls (acc ++ [t]) at_ F := by
  rcases nil_or_last acc with rfl | ⟨init, l, rfl⟩
  · simp [mstep]
  · have e : (init ++ [l]).getLast? = some l := List.getLast?_concat
    cases q : jn l t with
    | none => simp only [mstep, e, q]
    | some j =>
      simp only [mstep, e, q, List.dropLast_concat]
      rw [List.append_assoc, fls_app2, fls_app2 init, ← jn_fls q]
      rfl
theorem tot_pls (ts : List Tkn) : tot ts = (pls ts).length := by
  induction ts with
  | nil => rfl
  | cons a ts ih => rw [tot_cons, pls, List.flatMap_cons, List.length_append, Tkn.pls_len, ih, pls]
theorem fls_app3 (acc ts : List Tkn) (t : Tkn) (at_ : Nat) (F : List Nat) : fls ((acc ++ [t]) ++ ts) at_ F = fls ts (at_ + tot (mstep acc t)) (fls (acc ++ [t]) at_ F) := by
  rw [fls_app2, tot_pls (mstep acc t), pls_mstep, tot_pls, pls_app]
  simp [pls]
theorem fls_fold : ∀ (ts acc : List Tkn) (at_ : Nat) (F : List Nat), fls (ts.foldl mstep acc) at_ F = fls (acc ++ ts) at_ F
  | [], acc, at_, F => by simp
  | t :: ts, acc, at_, F => by
    rw [List.foldl_cons, fls_fold ts, fls_app2, fls_mstep, ← fls_app3, List.append_assoc]
    rfl
theorem fls_mrg (ts : List Tkn) (at_ : Nat) (F : List Nat) : fls (mrg ts) at_ F = fls ts at_ F := by rw [mrg, fls_fold]; rfl
theorem Pl.tk_pls (p : Pl) : p.tk.pls = [p] := by cases p <;> rfl
theorem pls_raw (fs : List Nat) : ∀ (ps : List Pl) (at_ : Nat), pls (raw fs ps at_) = ps
  | [], at_ => by rw [raw]; split <;> rfl
  | p :: ps, at_ => by
    rw [raw, pls_app]
    have : pls (p.tk :: raw fs ps (at_ + 1)) = p :: ps := by
      show p.tk.pls ++ pls (raw fs ps (at_ + 1)) = _
      rw [p.tk_pls, pls_raw fs ps]; rfl
    rw [this]
    split <;> rfl
/-- the flushes of what was placed -/
theorem fls_raw (fs : List Nat) : ∀ (ps : List Pl) (at_ : Nat) (acc : List Nat), (∀ x ∈ acc, x < at_) → fls (raw fs ps at_) at_ acc = acc ++ (List.range' at_ (ps.length + 1)).filter (fun x => decide (x ∈ fs))
  | [], at_, acc, h => by
    have hn : at_ ∉ acc := fun z => by have := h _ z; omega
    rw [raw]
    by_cases q : at_ ∈ fs
    · simp [q, fls, hn, List.range'_succ]
    · simp [q, fls, List.range'_succ]
  | p :: ps, at_, acc, h => by
    have hn : at_ ∉ acc := fun z => by have := h _ z; omega
    have hp : p.tk ≠ .flush := by cases p <;> simp [Pl.tk]
    have hs : p.tk.sz = 1 := by cases p <;> rfl
    rw [raw]
    by_cases q : at_ ∈ fs
    · rw [if_pos q, List.singleton_append, fls, if_neg hn, fls_cons_n hp, hs, fls_raw fs ps (at_ + 1) (acc ++ [at_]) (fun x hx => by
        rcases List.mem_append.mp hx with z | z
        · have := h x z; omega
        · rw [List.mem_singleton.mp z]; omega)]
      rw [List.length_cons, List.range'_succ (n := ps.length + 1), List.filter_cons_of_pos (by simpa using q)]
      simp
    · rw [if_neg q, List.nil_append, fls_cons_n hp, hs, fls_raw fs ps (at_ + 1) acc (fun x hx => by have := h x hx; omega)]
      rw [List.length_cons, List.range'_succ (n := ps.length + 1), List.filter_cons_of_neg (by simpa using q)]
/-- a list of flushes as they are told: ascending, each once -/
def Asc (F : List Nat) : Prop := F.Pairwise (· < ·)
theorem asc_ext : ∀ {F G : List Nat}, Asc F → Asc G → (∀ x, x ∈ F ↔ x ∈ G) → F = G
  | [], [], _, _, _ => rfl
  | [], g :: G, _, _, h => by have := (h g).mpr List.mem_cons_self; simp at this
  | f :: F, [], _, _, h => by have := (h f).mp List.mem_cons_self; simp at this
  | f :: F, g :: G, hf, hg, h => by
    have hf := List.pairwise_cons.mp hf
    have hg := List.pairwise_cons.mp hg
    have e : f = g := by
      have h1 := (h f).mp List.mem_cons_self
      have h2 := (h g).mpr List.mem_cons_self
      rcases List.mem_cons.mp h1 with z | z
      · exact z
      · rcases List.mem_cons.mp h2 with y | y
        · exact y.symm
        · have := hg.1 f z; have := hf.1 g y; omega
    subst e
    rw [asc_ext hf.2 hg.2 fun x => ?_]
    have := h x
    simp only [List.mem_cons] at this
    constructor
    · intro z
      have y := this.mp (.inr z)
      rcases y with y | y
      · have := hf.1 x z; omega
      · exact y
    · intro z
      have y := this.mpr (.inr z)
      rcases y with y | y
      · have := hg.1 x z; omega
      · exact y
theorem range_asc (s n : Nat) : Asc (List.range' s n) := List.pairwise_lt_range'
theorem fls_placed {F : List Nat} {ps : List Pl} (h1 : Asc F) (h2 : ∀ x ∈ F, x ≤ ps.length) : fls (placed F ps) 0 [] = F := by
  rw [placed, fls_mrg, fls_raw F ps 0 [] (by simp), List.nil_append]
  refine asc_ext ((range_asc _ _).filter _) h1 fun x => ?_
  simp only [List.mem_filter, List.mem_range'_1, decide_eq_true_eq]
  constructor
  · exact fun z => z.2
  · exact fun z => ⟨⟨by omega, by have := h2 x z; omega⟩, z⟩
theorem pls_placed (F : List Nat) (ps : List Pl) : pls (placed F ps) = ps := by rw [placed, pls_mrg, pls_raw]
/-- flushes ascend, and are within -/
theorem fls_ok : ∀ (ts : List Tkn) (at_ : Nat) (acc : List Nat), Asc acc → (∀ x ∈ acc, x ≤ at_) → Asc (fls ts at_ acc) ∧ ∀ x ∈ fls ts at_ acc, x ≤ at_ + tot ts
  | [], at_, acc, h1, h2 => ⟨h1, fun x hx => by have := h2 x hx; omega⟩
  | t :: r, at_, acc, h1, h2 => by
    by_cases q : t = .flush
    · subst q
      rw [fls, tot_cons]
      have : (Tkn.flush).sz = 0 := rfl
      rw [this, Nat.zero_add]
      split
      · exact fls_ok r at_ acc h1 h2
      · rename_i hn
        refine fls_ok r at_ (acc ++ [at_]) (List.pairwise_append.mpr ⟨h1, by simp, fun a ha b hb => ?_⟩) fun x hx => ?_
        · have := h2 a ha
          rw [List.mem_singleton.mp hb]
          have : a ≠ at_ := fun z => hn (z ▸ ha)
          omega
        · rcases List.mem_append.mp hx with z | z
          · exact h2 x z
          · rw [List.mem_singleton.mp z]; omega
    · rw [fls_cons_n q, tot_cons]
      have := fls_ok r (at_ + t.sz) acc h1 (fun x hx => by have := h2 x hx; omega)
      exact ⟨this.1, fun x hx => by have := this.2 x hx; omega⟩
def Tkn.okc (sg : List Nat) : Tkn → Prop
  | .text s => s ≠ [] ∧ ∀ c ∈ s, c ∈ sg
  | .any s => s ≠ [] ∧ s.Sublist sg
  | .copy f m => 1 ≤ f ∧ f ≤ 12 ∧ 1 ≤ m
  | .say f m => 1 ≤ f ∧ f ≤ 12 ∧ 1 ≤ m
  | .flush => True
def Pl.okc (sg : List Nat) : Pl → Prop
  | .sign c => c ∈ sg
  | .hole s => s ≠ [] ∧ s.Sublist sg
  | .copy f => 1 ≤ f ∧ f ≤ 12
  | .say f => 1 ≤ f ∧ f ≤ 12
theorem Tkn.ok.c {sg : List Nat} : ∀ {t : Tkn}, t.ok sg → t.okc sg
  | .text s, h => ⟨fun z => by have := h.1; rw [z] at this; simp at this, h.2.2⟩
  | .any s, h => h
  | .copy f m, h => ⟨h.1, h.2.1, h.2.2.1⟩
  | .say f m, h => ⟨h.1, h.2.1, h.2.2.1⟩
  | .flush, _ => trivial
theorem Tkn.okc.ok {sg : List Nat} : ∀ {t : Tkn}, t.okc sg → t.sz ≤ 40 → t.ok sg
  | .text s, h, z => ⟨List.length_pos_iff.mpr h.1, z, h.2⟩
  | .any s, h, _ => h
  | .copy f m, h, z => ⟨h.1, h.2.1, h.2.2, z⟩
  | .say f m, h, z => ⟨h.1, h.2.1, h.2.2, z⟩
  | .flush, _, _ => trivial
theorem Tkn.okc.good {sg : List Nat} : ∀ {t : Tkn}, t.okc sg → t.good
  | .text s, h => h.1
  | .any s, _ => trivial
  | .copy f m, h => h.2.2
  | .say f m, h => h.2.2
  | .flush, _ => trivial
theorem Pl.okc.tk {sg : List Nat} : ∀ {p : Pl}, p.okc sg → p.tk.okc sg
  | .sign c, h => ⟨by simp, by intro x hx; rw [List.mem_singleton.mp hx]; exact h⟩
  | .hole s, h => h
  | .copy f, h => ⟨h.1, h.2, Nat.le_refl _⟩
  | .say f, h => ⟨h.1, h.2, Nat.le_refl _⟩
theorem Tkn.okc.pls {sg : List Nat} : ∀ {t : Tkn}, t.okc sg → ∀ p ∈ t.pls, p.okc sg
  | .text s, h, p, hp => by obtain ⟨c, hc, rfl⟩ := List.mem_map.mp hp; exact h.2 c hc
  | .any s, h, p, hp => by rw [List.mem_singleton.mp hp]; exact h
  | .copy f m, h, p, hp => by rw [List.eq_of_mem_replicate hp]; exact ⟨h.1, h.2.1⟩
  | .say f m, h, p, hp => by rw [List.eq_of_mem_replicate hp]; exact ⟨h.1, h.2.1⟩
  | .flush, _, p, hp => by simp [Tkn.pls] at hp
theorem Good.c {sg : List Nat} {ts : List Tkn} (h : Good sg ts) : ∀ t ∈ ts, t.okc sg := fun t q => (h.ok t q).c
theorem Good.g {sg : List Nat} {ts : List Tkn} (h : Good sg ts) : ∀ t ∈ ts, t.good := fun t q => (h.c t q).good
theorem Good.of {sg : List Nat} {ts : List Tkn} (h : ∀ t ∈ ts, t.okc sg) (h1 : 1 ≤ tot ts) (h2 : tot ts ≤ 40) (h3 : ts.length ≤ 1000) : Good sg ts :=
  ⟨fun t q => (h t q).ok (Nat.le_trans (sz_le_tot q) h2), h1, h2, h3⟩
theorem Good.app {sg : List Nat} {a b : List Tkn} (ha : Good sg a) (hb : Good sg b) (h : tot a + tot b ≤ 40) (hl : a.length + b.length ≤ 1000) : Good sg (a ++ b) :=
  Good.of (fun t q => (List.mem_append.mp q).elim (ha.c t) (hb.c t)) (by rw [tot_app]; have := ha.lo; omega) (by rw [tot_app]; exact h) (by rw [List.length_append]; exact hl)
end Wc
namespace Wc
open PySem L2
theorem lenW_ex {n : Nat} {Q : W → Prop} (h : n ≤ 100000) (q : Q (.sh (.int (n : Int)))) : ∃ w, lenW (.sh (.int (n : Int))) = some w ∧ Q w := by
  refine ⟨.sh (.int (n : Int)), ?_, q⟩
  rw [lenW, if_pos]
  constructor <;> omega
theorem adds_ex {s t : List Nat} {Q : W → Prop} (h : s.length + t.length ≤ 100000) (q : Q (.sh (.str (s ++ t)))) : ∃ w, addD (.str s) (.str t) = some w ∧ Q w := ⟨_, if_pos (show s.length + t.length ≤ 16777216 by omega), q⟩
theorem addt_ex {s t : List D} {Q : W → Prop} (h : s.length + t.length ≤ 100000) (hn : s ≠ []) (q : Q (.sh (.tup (s ++ t)))) : ∃ w, addD (.tup s) (.tup t) = some w ∧ Q w :=
  ⟨_, if_pos ⟨show s.length + t.length ≤ 16777216 by omega, by cases s with | nil => exact absurd rfl hn | cons _ _ => rfl⟩, q⟩
theorem joinL_flat : ∀ ss : List (List Nat), TL.joinL [] ss = ss.flatten
  | [] => rfl
  | [s] => by simp [TL.joinL]
  | s :: t :: r => by
    have := joinL_flat (t :: r)
    rw [TL.joinL, this]
    simp
theorem eqL_refl {f : D → D → Option Bool} : ∀ {xs : List D}, (∀ x ∈ xs, f x x = some true) → eqL f xs xs = some true
  | [], _ => rfl
  | x :: xs, h => by
    rw [eqL, h x List.mem_cons_self, Option.bind_some, eqL_refl fun y hy => h y (List.mem_cons_of_mem _ hy)]
    rfl
theorem ite_nt {A B : Prop} {n : List D} {i : Decidable (D.isNon (.tup n) = true)} (h : B) : @ite Prop (D.isNon (.tup n) = true) i A B := ite_F (b := D.isNon (.tup n)) rfl h
theorem ite_nl {A B : Prop} {n : List D} {i : Decidable (D.isNon (.lst n) = true)} (h : B) : @ite Prop (D.isNon (.lst n) = true) i A B := ite_F (b := D.isNon (.lst n)) rfl h
end Wc
namespace Wc
open PySem L2
def Fp (ts : List Tkn) (b e : Nat) : List Nat := ((fls ts 0 []).filter fun m => decide (b ≤ m) && decide (m < e + if e = tot ts then 1 else 0)).map (· - b)
def pp (ts : List Tkn) (b e : Nat) : List Tkn := placed (Fp ts b e) (((pls ts).drop b).take (e - b))
theorem pp_len {ts : List Tkn} {b e : Nat} (h1 : b ≤ e) (h2 : e ≤ tot ts) : (((pls ts).drop b).take (e - b)).length = e - b := by
  rw [List.length_take, List.length_drop, ← tot_pls]; omega
theorem fls_asc (ts : List Tkn) : Asc (fls ts 0 []) := (fls_ok ts 0 [] List.Pairwise.nil (by simp)).1
theorem mem_Fp {ts : List Tkn} {b e x : Nat} : x ∈ Fp ts b e ↔ b + x ∈ fls ts 0 [] ∧ b + x < e + if e = tot ts then 1 else 0 := by
  unfold Fp
  simp only [List.mem_map, List.mem_filter, Bool.and_eq_true, decide_eq_true_eq]
  constructor
  · rintro ⟨m, ⟨h1, h2, h3⟩, rfl⟩
    rw [show b + (m - b) = m by omega]; exact ⟨h1, h3⟩
  · rintro ⟨h1, h2⟩
    exact ⟨b + x, ⟨h1, by omega, h2⟩, by omega⟩
theorem asc_map {F : List Nat} {g : Nat → Nat} (h : Asc F) (hg : ∀ x ∈ F, ∀ y ∈ F, x < y → g x < g y) : Asc (F.map g) := by
  unfold Asc at *
  rw [List.pairwise_map]
  exact h.imp_of_mem fun {a b} ha hb q => hg a ha b hb q
theorem Fp_asc (ts : List Tkn) (b e : Nat) : Asc (Fp ts b e) := by
  refine asc_map ((fls_asc ts).filter _) fun x hx y hy q => ?_
  simp only [List.mem_filter, Bool.and_eq_true, decide_eq_true_eq] at hx hy
  omega
theorem Fp_le {ts : List Tkn} {b e : Nat} (h1 : b ≤ e) : ∀ x ∈ Fp ts b e, x ≤ e - b := fun x hx => by
  obtain ⟨h3, h4⟩ := mem_Fp.mp hx
  split at h4 <;> omega
theorem pls_pp (ts : List Tkn) (b e : Nat) : pls (pp ts b e) = ((pls ts).drop b).take (e - b) := pls_placed _ _
theorem fls_pp {ts : List Tkn} {b e : Nat} (h1 : b ≤ e) (h2 : e ≤ tot ts) : fls (pp ts b e) 0 [] = Fp ts b e := fls_placed (Fp_asc ts b e) fun x hx => by rw [pp_len h1 h2]; exact Fp_le h1 x hx
theorem fls_shift (k : Nat) (A : List Nat) (hA : ∀ x ∈ A, x < k) : ∀ (ts : List Tkn) (at_ : Nat) (acc : List Nat), fls ts (at_ + k) (A ++ acc.map (· + k)) = A ++ (fls ts at_ acc).map (· + k)
  | [], at_, acc => rfl
  | t :: r, at_, acc => by
    by_cases q : t = .flush
    · subst q
      rw [fls, fls]
      have mem : at_ + k ∈ A ++ acc.map (· + k) ↔ at_ ∈ acc := by
        rw [List.mem_append, List.mem_map]
        constructor
        · rintro (z | ⟨x, z, e⟩)
          · have := hA _ z; omega
          · obtain rfl : x = at_ := by omega
            exact z
        · exact fun z => .inr ⟨at_, z, rfl⟩
      by_cases z : at_ ∈ acc
      · rw [if_pos z, if_pos (mem.mpr z)]; exact fls_shift k A hA r at_ acc
      · rw [if_neg z, if_neg (fun y => z (mem.mp y)), List.append_assoc]
        have := fls_shift k A hA r at_ (acc ++ [at_])
        rw [List.map_append] at this
        exact this
    · rw [fls_cons_n q, fls_cons_n q]
      have := fls_shift k A hA r (at_ + t.sz) acc
      rw [show at_ + k + t.sz = at_ + t.sz + k by omega]
      exact this
theorem fls_behind {k : Nat} {A : List Nat} (hA : ∀ x ∈ A, x < k) (ts : List Tkn) : fls ts k A = A ++ (fls ts 0 []).map (· + k) := by
  have := fls_shift k A hA ts 0 []
  simpa using this
/-- the first c places with the flushes ahead of them -/
structure Upto (ts acc : List Tkn) (c : Nat) : Prop where
  pl : pls acc = (pls ts).take c
  fl : fls acc 0 [] = (fls ts 0 []).filter fun m => decide (m < c + if c = tot ts then 1 else 0)
theorem Upto.next {ts acc : List Tkn} {c c' : Nat} (h : Upto ts acc c) (h1 : c < c') (h2 : c' ≤ tot ts) : Upto ts (acc ++ pp ts c c') c' := by
  have hc : c ≠ tot ts := by omega
  have ht : tot acc = c := by rw [tot_pls, h.pl, List.length_take, ← tot_pls]; omega
  refine ⟨?_, ?_⟩
  · rw [pls_app, h.pl, pls_pp, ← List.take_add]; congr 1; omega
  · rw [fls_app2, ht, Nat.zero_add, fls_behind (fun x hx => ?_), h.fl, fls_pp (by omega) h2, if_neg hc]
    · refine asc_ext ?_ ((fls_asc ts).filter _) fun x => ?_
      · refine List.pairwise_append.mpr ⟨(fls_asc ts).filter _, asc_map (Fp_asc _ _ _) (by intros; omega), fun a ha b hb => ?_⟩
        obtain ⟨y, hy, rfl⟩ := List.mem_map.mp hb
        simp only [List.mem_filter, decide_eq_true_eq] at ha
        omega
      · rw [List.mem_append, List.mem_filter, List.mem_filter, List.mem_map]
        simp only [decide_eq_true_eq]
        constructor
        · rintro (⟨a1, a2⟩ | ⟨y, hy, rfl⟩)
          · exact ⟨a1, by omega⟩
          · obtain ⟨b1, b2⟩ := mem_Fp.mp hy
            rw [Nat.add_comm y c]
            exact ⟨b1, b2⟩
        · rintro ⟨a1, a2⟩
          by_cases q : x < c
          · exact .inl ⟨a1, by omega⟩
          · refine .inr ⟨x - c, mem_Fp.mpr ?_, by omega⟩
            rw [show c + (x - c) = x by omega]
            exact ⟨a1, a2⟩
    · rw [h.fl, if_neg hc, List.mem_filter] at hx
      simpa using hx.2
theorem itR2_ex {i j : Int} {Q : List D → Prop} (h0 : -100000 ≤ i) (h1 : i ≤ 100000) (h2 : -100000 ≤ j) (h3 : j ≤ 100000) (q : Q (rng i (j - i).toNat)) : ∃ xs, itR2 (.int i) (.int j) = some xs ∧ Q xs := by
  refine ⟨rng i (j - i).toNat, ?_, q⟩
  show (if inr i = true ∧ inr j = true ∧ (j - i).toNat ≤ 16777216 then some (rng i (j - i).toNat) else none) = _
  rw [if_pos]
  unfold inr
  simp only [Bool.and_eq_true, decide_eq_true_eq]
  omega
theorem rst1 {e e' : Env'} {i : Nat} (h : e[i]? = some none) : rstE e e' [i] = e'.set i none := by
  show (e'.set i (e[i]?).join) = _
  rw [h]; rfl
end Wc
namespace Wc
open PySem L2
def forE (i : Nat) (t : Tg) (F : M Fl) : M Fl := fun env => match env[i]? with
  | some (some w) => match itL w.view with
    | some xs => lockR i w (forM t F (enumF 0 xs) (env.set i none))
    | none => .bad
  | _ => .bad
section
variable {X : Cx} {T : Cl} {Wx : WX} {t : Tg} {F : M Fl} {as : List Nat}
theorem gi_enum {Z Lk : Hp} {a : Addr} {vs : List V} {ds : List D} (K : PySem.W.Frag) (h : Z a = some (.lst vs) ∨ Lk a = some (.lst vs)) (hl : ds.length ≤ sizeLine) (s1 : ShL T Z ds vs) : GI T Z Lk (Ite K a) (enumF 0 ds) := by
  refine ⟨by rw [enumF_len]; exact hl, _, _, (by rw [enumF_len, ← s1.length]; exact walk_enum (K := K) (a := a) (xs := vs)), fun H e1 e2 => SqL.of (h.elim (e1 _ _) (e2 _ _)), fun i H v H' hi _ _ y => ?_⟩
  obtain ⟨q, x, z, y1, y2, y3, y4, y5⟩ := y
  obtain ⟨d, e1, e2⟩ := s1.getV y5
  have y4 : V.int (i : Nat) = x := by simpa using y4
  refine ⟨_, enumF_get 0 ds i d e1, .inr ⟨q, [x, z], [.int ((0 + i : Nat) : Int), d], y1, y2, y3, rfl, by show 2 ≤ 16777216; decide, ⟨x, [z], rfl, ?_, z, [], rfl, e2, rfl⟩⟩⟩
  rw [← y4, Nat.zero_add]
  rfl
theorem sd_forE0 {elts : List Expr} {kk : Nat} {tpos : Pos} {g : TG} {nm : Expr} {p pos2 : Pos} {body : List Stmt} {i : Nat} {pos : Pos} (hp : PassesOwn (model X.prog X.w) X.A X.env X.xe) (hc : X.calm = true) (hgl : Gl X "enumerate") (hm : X.mg "enumerate" = none) (hi : PE X nm (tVar i)) (hia : i ∉ as) (hg : GT X T as (.Tuple elts kk tpos) t g) (hb : PSs X body (TSF T Wx as F))
    (hse : starEach [nm] X.env = [(false, eval nm X.env)] := by rfl) (hs : ∀ x, foldedSetIterable (.Call (.Name "enumerate" p) [nm] [] pos2) X.env x = pure x := by intro _; rfl) : PS X (.For (.Tuple elts kk tpos) (.Call (.Name "enumerate" p) [nm] [] pos2) body [] pos) (TSF T Wx as (forE i t F)) :=
  psImp (ps_for hp hc (pi_enum hgl hm (pa_cons hi pa_nil hse) hse) hg.1 hb hs) fun D σ H ⟨Z, env, r, p⟩ => by
    unfold forE at p
    cases ei : env[i]? with
    | none => rw [ei] at p; exact p.elim
    | some ow =>
      cases ow with
      | none => rw [ei] at p; exact p.elim
      | some w =>
        rw [ei] at p
        simp only at p
        cases ex : itL w.view with
        | none => rw [ex] at p; exact p.elim
        | some xs =>
          rw [ex] at p
          simp only at p
          obtain ⟨v, hv, hw⟩ := r.at_ i w ei
          obtain ⟨a, vs, rfl, ha, hl, s, zo⟩ := itL_own ex r.ex hw
          refine ⟨_, hv, a, vs, rfl, SqL.of ha, ?_⟩
          have lk : ∀ (p : Addr) (o : HO), (fun b => if b = a ∧ w.own = true then some (HO.lst vs) else none : Hp) p = some o → p = a ∧ w.own = true ∧ o = .lst vs := fun p o h => by
            simp only at h
            split at h
            · rename_i hc; cases h; exact ⟨hc.1, hc.2, rfl⟩
            · cases h
          refine for_core (Lk := fun b => if b = a ∧ w.own = true then some (HO.lst vs) else none) hg (fun _ _ _ z => z) (gi_enum X.K (zo.imp id fun ow => by simp [ow]) hl s) (r.hide (i := i)) (fun p o h => ?_) (fun p o h z => ?_) (lockR_post hia r ei p)
          · obtain ⟨rfl, _, rfl⟩ := lk p o h
            exact ha
          · obtain ⟨rfl, ow, rfl⟩ := lk p o h
            exact r.hidden ei ow hv z
theorem sd_forEn {elts : List Expr} {kk : Nat} {tpos : Pos} {nm : Expr} {p pos2 : Pos} {body : List Stmt} {i : Nat} {pos : Pos} (hp : PassesOwn (model X.prog X.w) X.A X.env X.xe) (hc : X.calm = true) (hgl : Gl X "enumerate") (hm : X.mg "enumerate" = none) (hi : PE X nm (tVar i)) (hia : i ∉ as) (hg : GTe X T as (.Tuple elts kk tpos) t) (hb : PSs X body (TSF T Wx as F))
    (hse : starEach [nm] X.env = [(false, eval nm X.env)] := by rfl) (hs : ∀ x, foldedSetIterable (.Call (.Name "enumerate" p) [nm] [] pos2) X.env x = pure x := by intro _; rfl) : PS X (.For (.Tuple elts kk tpos) (.Call (.Name "enumerate" p) [nm] [] pos2) body [] pos) (TSF T Wx as (forE i t F)) := hg.elim fun _ hg => sd_forE0 hp hc hgl hm hi hia hg hb hse hs
variable {e : Expr} {es : List Expr} {p pos apos : Pos} {k np : Nat} {g : Addr} {fd : FuncData} {ps : List Str} {x m : Str} {G : M W} {bs : List (Sum Nat (M D))}
end
theorem wp_forE {e : Env'} {i : Nat} {t : Tg} {F : M Fl} {Q : Fl → Env' → Prop} {w : W} {items : List D} (hi : e[i]? = some (some w)) (hv : itL w.view = some items)
    (h : Wp (forM t F (enumF 0 items) (e.set i none)) fun fl e' => Q fl (e'.set i (some w))) : Wp (forE i t F e) Q := by
  unfold forE
  simp only [hi, hv]
  obtain ⟨fl, e2, h1, h2⟩ := h.get
  rw [h1]
  exact w_ok.mpr h2
end Wc
namespace Wc
open PySem L2
def S' (s : List Nat) : PyData := .str ⟨s.toArray⟩
def Tkn.p : Tkn → PyData
  | .text s => .tuple [S' [116, 101, 120, 116], S' s]
  | .any s => .tuple [S' [97, 110, 121], S' s]
  | .copy f m => .tuple [S' [99, 111, 112, 121], .int f, .int m]
  | .say f m => .tuple [S' [115, 97, 121], .int f, .int m]
  | .flush => .tuple [S' [102, 108, 117, 115, 104]]
def Pl.p : Pl → PyData
  | .sign c => .tuple [S' [115, 105, 103, 110], S' [c]]
  | .hole s => .tuple [S' [104, 111, 108, 101], S' s]
  | .copy f => .tuple [S' [99, 111, 112, 121], .int f]
  | .say f => .tuple [S' [115, 97, 121], .int f]
theorem toPs_map {α : Type} {f : α → D} {g : α → PyData} (h : ∀ x, toP (f x) = some (g x)) : ∀ xs : List α, toPs (xs.map f) = some (xs.map g)
  | [] => rfl
  | x :: xs => by simp only [List.map_cons, toPs, h, toPs_map h xs]
/-- what is small and plain -/
structure Fine (p : PyData) (n : Nat) : Prop where
  sh : p.showable = true
  nd : p.hasDict = p.hasDict
  dp : p.depth ≤ 10
  lv : p.leavesShort 13 = true
  wt : p.weight ≤ n
theorem fine_all {α : Type} {g : α → PyData} {n : Nat} : ∀ (xs : List α), (∀ x ∈ xs, Fine (g x) n) → PyData.showableAll (xs.map g) = true ∧ PyData.hasDictAll (xs.map g) = PyData.hasDictAll (xs.map g) ∧ PyData.depthAll (xs.map g) ≤ 10 ∧ PyData.leavesShortAll 13 (xs.map g) = true ∧ PyData.weightAll (xs.map g) ≤ (n + 1) * xs.length
  | [], _ => ⟨rfl, rfl, Nat.zero_le _, rfl, Nat.zero_le _⟩
  | x :: xs, h => by
    obtain ⟨h1, h2, h3, h4, h5⟩ := fine_all xs fun y hy => h y (List.mem_cons_of_mem _ hy)
    have a := h x List.mem_cons_self
    refine ⟨by rw [List.map_cons, PyData.showableAll, a.sh, h1]; rfl, rfl, ?_, by rw [List.map_cons, PyData.leavesShortAll, a.lv, h4]; rfl, ?_⟩
    · rw [List.map_cons, PyData.depthAll]; have := a.dp; omega
    · rw [List.map_cons, PyData.weightAll, List.length_cons, Nat.mul_add]; have := a.wt; omega
theorem repr_list {α : Type} {f : α → D} {g : α → PyData} {n : Nat} (h : ∀ x, toP (f x) = some (g x)) (xs : List α) (hf : ∀ x ∈ xs, Fine (g x) n) (hn : n ≤ 100) (hl : xs.length ≤ 10000) : (reprD (.lst (xs.map f))).isSome = true := by
  obtain ⟨h1, h2, h3, h4, h5⟩ := fine_all xs hf
  have e : toP (.lst (xs.map f)) = some (.list (xs.map g)) := by rw [toP, toPs_map h]; rfl
  have w : (PyData.list (xs.map g)).weight ≤ 101 * xs.length := by
    show PyData.weightAll _ ≤ _
    refine Nat.le_trans h5 (Nat.mul_le_mul_right _ (by omega))
  have len := PyData.shown_le 13 (by decide) (.list (xs.map g)) h4
  unfold reprD
  rw [e]
  simp only
  rw [if_pos]
  · rfl
  · refine ⟨h1, ?_, ?_⟩
    · show PyData.depthAll _ + 1 ≤ 60
      omega
    · show _ ≤ 16777216
      omega
theorem int_lv : ∀ n : _root_.Fin 64, (PyData.int (n.val : Int)).leavesShort 13 = true := by decide +kernel
theorem int_fine {n : Nat} (h : n ≤ 40) : (PyData.int (n : Int)).showable = true ∧ (PyData.int (n : Int)).leavesShort 13 = true ∧ (PyData.int (n : Int)).weight ≤ 41 := by
  have l : n.log2 ≤ n := Nat.log2_le_self n
  refine ⟨?_, int_lv ⟨n, by omega⟩, ?_⟩
  · show decide ((n : Int).natAbs.log2 < 1920) = true
    rw [Int.natAbs_natCast]
    simp; omega
  · show (if (n : Int) == 0 then 0 else (n : Int).natAbs.log2 + 1) ≤ 41
    rw [Int.natAbs_natCast]
    split <;> omega
theorem SIGNS_lt : ∀ s ∈ SIGNS, (∀ c ∈ s, c < 1000) ∧ s.length ≤ 40 := by decide
theorem eq_lst {xs : List D} (h : ∀ x ∈ xs, eqD 59 x x = some true) : eqD 60 (.lst xs) (.lst xs) = some true := by
  show (if xs.length = xs.length then eqL (eqD 59) xs xs else some false) = some true
  rw [if_pos rfl]
  exact eqL_refl h
theorem eq_iL (l : List Nat) : eqD 60 (.lst (iL l)) (.lst (iL l)) = some true := eq_lst fun x hx => by
  obtain ⟨t, _, rfl⟩ := List.mem_map.mp hx
  show some ((t : Int) == (t : Int)) = _
  simp
end Wc
namespace Wc
open PySem L2
theorem ix_nat {xs : List D} {k : Nat} {y : D} (h : xs[k]? = some y) : ixD (.lst xs) (.int (k : Int)) = some (.sh y) := by
  have hk := (List.getElem?_eq_some_iff.mp h).1
  have e : ixN xs.length (k : Int) = some k := by
    unfold ixN
    rw [if_pos (by omega)]
    simp [hk]
  show ((ixN xs.length (k : Int)).bind fun n => xs[n]?).map W.sh = _
  rw [e]
  show (xs[k]?).map W.sh = _
  rw [h]
  rfl
end Wc
namespace Wc
open PySem L2
def strW : W → Option W
  | .sh (.str s) => some (.sh (.str s))
  | _ => none
def reprM (c : Nat) (f : M D) (F : M W) : M W := f >>= fun x => ofO (chkC c x) >>= fun _ => apA [.inr x] F >>= fun w => ofO (strW w)
section
variable {X : Cx} {T : Cl} {Wx : WX} {σ : St} {Z H : Hp} {f g : M D} {F : M W} {Q : VK} {k : Nat} {fa : Addr} {fd : FuncData} {ps : List Str} {a b e : Expr} {p pos : Pos} {c : Nat}
theorem w_repr {e : Env'} {c : Nat} {f : M D} {F : M W} {Q : W → Env' → Prop} : Wp (reprM c f F e) Q ↔ Wp (f e) fun x e' => (∃ u, chkC c x = some u) ∧ Wp (apA [.inr x] F e') fun w e' => ∃ w', strW w = some w' ∧ Q w' e' := by
  unfold reprM
  simp only [w_bind, w_ofO]
  constructor <;> intro h <;> refine h.mono fun x e' h => ?_
  · obtain ⟨u, h1, h3⟩ := h; exact ⟨⟨u, h1⟩, h3⟩
  · obtain ⟨⟨u, h1⟩, h3⟩ := h; exact ⟨u, h1, h3⟩
end
section
variable {X : Cx} {T : Cl} {Wx : WX} {α : Type} {κ : Kind α V} {inj : W → α} {e : Expr} {es : List Expr} {f : M D} {fs : List (M D)} {p pos : Pos}
/-- the parts' texts one behind the other -/
def catO (acc : List Nat) : D → Option (List Nat)
  | .str y => if (acc ++ y).length ≤ lim then some (acc ++ y) else none
  | _ => none
def fsM : List Nat → List (M D) → M D
  | acc, [] => M.pure (.str acc)
  | acc, f :: fs => f >>= fun d => ofO (catO acc d) >>= fun acc => fsM acc fs
theorem w_fs0 {e : Env'} {acc : List Nat} {Q : D → Env' → Prop} : Wp (fsM acc [] e) Q ↔ Q (.str acc) e := by
  unfold fsM
  exact w_pure
theorem w_fsc {e : Env'} {acc : List Nat} {f : M D} {fs : List (M D)} {Q : D → Env' → Prop} : Wp (fsM acc (f :: fs) e) Q ↔ Wp (f e) fun d e' => ∃ a, catO acc d = some a ∧ Wp (fsM a fs e') Q := by
  rw [fsM]
  simp only [w_bind, w_ofO]
end
end Wc
namespace Wc
open PySem L2
section
variable {X : Cx} {T : Cl} {Wx : WX} {as : List Nat} {f : M D} {o b e : Expr} {pos apos : Pos} {i : Nat}
theorem sFldC {c : Nat} {n : Str} : S1 T (fun v H Q => ∃ a dx fs v', v = .ref a ∧ H a = some (.ins (T.ca c) dx fs) ∧ fs.lookup n = some v' ∧ Q v' H) (fldD c n) := by
  intro Z H σ env v d w Q r hd ho nw
  cases d <;> simp only [fldD] at ho <;> try (cases ho; done)
  rename_i c' ns ds
  split at ho
  · rename_i hc
    subst hc
    cases q : look n ns ds with
    | none => rw [q] at ho; cases ho
    | some y =>
      rw [q] at ho; cases ho
      obtain ⟨a, dx, fv, rfl, h1, rfl, s⟩ := hd
      obtain ⟨u, h2, h3⟩ := look_ok s q
      exact ⟨a, dx, fv, u, rfl, h1, h2, nw.sc r h3⟩
  · cases ho
theorem pkV {σ : St} {H : Hp} {Q : VK} (q : TF T Wx KV (pk i) σ H Q) : tVar i σ H Q := by
  obtain ⟨Z, env, r, p⟩ := q
  unfold pk at p
  cases q : env[i]? with
  | none => rw [q] at p; exact p.elim
  | some ow =>
    cases ow with
    | none => rw [q] at p; exact p.elim
    | some w =>
      rw [q] at p
      obtain ⟨v, hv, hw⟩ := r.at_ i w q
      exact ⟨v, hv, p Z H v ((Adv.refl (O := Owns σ env) r.ex).weak fun y hy => hy.elim id fun z => z.elim) r (hw.vw r.ex) fun _ z => z.elim⟩
theorem sd_augF {c : Nat} {n : Str} {op : Operator} {r : R2} {o2 : D → D → Option W} (cl : Cls X.K (T.ca c)) (na : NoAttr X.K (T.ca c) n) (ho : PE X o (tVar i)) (hop : OpR X (inplaceOp op) r) (S : S2 T r o2) (he : PE X e (TF T Wx KV f)) :
    PS X (.AugAssign (.Attribute o n apos) op e pos) (TSF T Wx as (setF i c n (m2 W.view o2 (m1 W.view (fldD c n) (pk i)) f))) :=
  psImp (ps_fldaug ho he (fun pins s σ H x y v u Q I rx ry q => hop pins s σ H x y v u Q I rx ry q)) fun De σ H q => by
    by_cases hv : ∃ a0 : Addr, σ[i]? = some (some (V.ref a0))
    · obtain ⟨a0, ha0⟩ := hv
      have q1 : TF T Wx KD (m2 W.view o2 (m1 W.view (fldD c n) (pk i)) f) σ H fun z H3 => ∃ dx' fs', H3 a0 = some (.ins (T.ca c) dx' fs') ∧ fs'.length < 1000 ∧ De.nx σ (upd H3 a0 (.ins (T.ca c) dx' (putF n z fs'))) := TSF.bind (κ := KD) q fun Z1 H1 v d env1 r1 s1 _ p0 => by
        have p := p0.noext r1.ex
        cases e1 : env1[i]? with
        | none => rw [e1] at p; exact p.elim
        | some ow =>
          cases ow with
          | none => rw [e1] at p; exact p.elim
          | some w =>
            cases w with
            | sh _ => rw [e1] at p; exact p.elim
            | ml _ => rw [e1] at p; exact p.elim
            | md _ _ => rw [e1] at p; exact p.elim
            | mo c' ns ds =>
              rw [e1] at p
              simp only at p
              split at p
              · rename_i hc
                obtain ⟨rfl, hl⟩ := hc
                obtain ⟨u, hu, l, dx, fv, rfl, zl, hl0, rfl, s⟩ := r1.at_ i _ e1
                rw [ha0] at hu
                cases hu
                obtain ⟨k1, k2⟩ := put_ok (n := n) s1 s
                refine ⟨dx, fv, hl0, by simpa using hl, ?_⟩
                refine p Z1 _ σ (fun _ _ => rfl) (r1.put e1 ha0 (Adv.write (O := fun p => V.ref a0 = .ref p ∧ W.own (.mo c (fv.map (·.1)) ds) = true) r1.ex ⟨rfl, rfl⟩ zl) fun u' eu => ?_) ((Adv.write (O := Owns σ env1) r1.ex ⟨i, _, e1, rfl, ha0⟩ zl).weak fun y z => ?_)
                · cases eu
                  exact ⟨⟨a0, dx, putF n v fv, rfl, zl, upd_same, k1, k2⟩, fun _ => rfl⟩
                · rcases z.set_sub with z | ⟨u', e2, e3, e4⟩
                  · exact z
                  · exact ⟨i, _, e1, rfl, e4⟩
              · exact p.elim
      obtain ⟨x, hx, a, dx, fs, v', e1, e2, e3, e4⟩ := pkV (tf1 finD (sFldC (c := c) (n := n)) (tf2 finD S q1))
      rw [ha0] at hx
      cases hx
      cases e1
      exact ⟨_, ha0, a0, _, dx, fs, v', rfl, e2, cl, na, e3, e4⟩
    · exfalso
      have q1 : TF T Wx KD (m2 W.view o2 (m1 W.view (fldD c n) (pk i)) f) σ H fun _ _ => True := TSF.bind (κ := KD) q fun Z1 H1 v d env1 r1 s1 _ p0 => trivial
      obtain ⟨x, hx, a, dx, fs, v', e1, e2, e3, e4⟩ := pkV (tf1 finD (sFldC (c := c) (n := n)) (tf2 finD S q1))
      exact hv ⟨a, by rw [hx, e1]⟩
end
end Wc
namespace Wc
open PySem L2
class WStep (P : Prop) (P' : outParam Prop) : Prop where
  mpr : P' → P
instance s_seq {e : Env'} {F G : M Fl} {Q : Fl → Env' → Prop} : WStep (Wp (seqM F G e) Q) (Wp (F e) fun fl e' => match fl with
    | .nx => Wp (G e') Q
    | fl => Q fl e') := ⟨w_seq.mpr⟩
instance s_if {e : Env'} {b : M Bool} {F G : M Fl} {Q : Fl → Env' → Prop} : WStep (Wp (ifM b F G e) Q) (Wp (b e) fun c e' => if c = true then Wp (F e') Q else Wp (G e') Q) := ⟨w_if.mpr⟩
instance s_asg {e : Env'} {i : Nat} {f : M W} {Q : Fl → Env' → Prop} : WStep (Wp (asgM i f e) Q) (Wp (f e) fun w e' => i < e'.length ∧ Q .nx (e'.set i (some w))) := ⟨w_asg.mpr⟩
instance s_ret {e : Env'} {f : M W} {Q : Fl → Env' → Prop} : WStep (Wp (retM f e) Q) (Wp (f e) fun w e' => Q (.ret w) e') := ⟨w_ret.mpr⟩
instance s_nx {e : Env'} {Q : Fl → Env' → Prop} : WStep (Wp (nxM e) Q) (Q .nx e) := ⟨w_nx.mpr⟩
instance s_drp {α : Type} {e : Env'} {f : M α} {Q : Fl → Env' → Prop} : WStep (Wp (drpM f e) Q) (Wp (f e) fun _ e' => Q .nx e') := ⟨w_drp.mpr⟩
instance s_tb {e : Env'} {f : M D} {Q : Bool → Env' → Prop} : WStep (Wp (tbM f e) Q) (Wp (f e) fun d e' => ∃ b, boolD d = some b ∧ Q b e') := ⟨w_tb.mpr⟩
instance s_tst {e : Env'} {f : M D} {Q : Bool → Env' → Prop} : WStep (Wp (tstM f e) Q) (Wp (f e) fun d e' => ∃ b, truD d = some b ∧ Q b e') := ⟨w_tst.mpr⟩
instance s_m2n {α : Type} {e : Env'} {i : Nat} {inj : W → α} {op : D → D → Option W} {g : M D} {Q : α → Env' → Prop} : WStep (Wp (m2n inj op i g e) Q) (∃ w0, e[i]? = some (some w0) ∧ Wp (g e) fun y e' => ∃ w1, e'[i]? = some (some w1) ∧ ∃ w, op w1.view y = some w ∧ Q (inj w) e') := ⟨w_m2n.mpr⟩
instance s_m2 {α : Type} {e : Env'} {inj : W → α} {op : D → D → Option W} {f g : M D} {Q : α → Env' → Prop} : WStep (Wp (m2 inj op f g e) Q) (Wp (f e) fun x e' => Wp (g e') fun y e' => ∃ w, op x y = some w ∧ Q (inj w) e') := ⟨w_m2.mpr⟩
instance s_m1 {α : Type} {e : Env'} {inj : W → α} {op : D → Option W} {f : M D} {Q : α → Env' → Prop} : WStep (Wp (m1 inj op f e) Q) (Wp (f e) fun x e' => ∃ w, op x = some w ∧ Q (inj w) e') := ⟨w_m1.mpr⟩
instance s_kc {e : Env'} {d : D} {Q : D → Env' → Prop} : WStep (Wp (kc d e) Q) (Q d e) := ⟨w_kc.mpr⟩
instance s_lf {e : Env'} {f : M D} {Q : W → Env' → Prop} : WStep (Wp (lf f e) Q) (Wp (f e) fun d e' => Q (.sh d) e') := ⟨w_lf.mpr⟩
instance s_fz {e : Env'} {f : M W} {Q : D → Env' → Prop} : WStep (Wp (fz f e) Q) (Wp (f e) fun w e' => Q w.view e') := ⟨w_fz.mpr⟩
instance s_pk {e : Env'} {i : Nat} {Q : D → Env' → Prop} : WStep (Wp (pk i e) Q) (∃ w, e[i]? = some (some w) ∧ Q w.view e) := ⟨w_pk.mpr⟩
instance s_nm {e : Env'} {i : Nat} {Q : D → Env' → Prop} : WStep (Wp (nm i e) Q) (∃ w, e[i]? = some (some w) ∧ Q w.view (e.set i (some (.sh w.view)))) := ⟨w_nm.mpr⟩
instance s_mv {e : Env'} {i : Nat} {Q : W → Env' → Prop} : WStep (Wp (mv i e) Q) (∃ w, e[i]? = some (some w) ∧ Q w (e.set i none)) := ⟨w_mv.mpr⟩
instance s_setI {e : Env'} {i : Nat} {k f : M D} {Q : Fl → Env' → Prop} : WStep (Wp (setI i k f e) Q) (Wp (f e) fun y e' => ∃ w, e'[i]? = some (some w) ∧ Wp (k e') fun d e' => ∃ j, intO d = some j ∧ ∃ xs n, e'[i]? = some (some (.ml xs)) ∧ ixN xs.length j = some n ∧ xs.length ≤ lim ∧ Q .nx (e'.set i (some (.ml (xs.set n y))))) := ⟨w_setI.mpr⟩
instance s_augI {e : Env'} {i : Nat} {k f : M D} {Q : Fl → Env' → Prop} : WStep (Wp (augI i k f e) Q) (∃ w, e[i]? = some (some w) ∧ Wp (k e) fun d e' => ∃ j, intO d = some j ∧ ∃ w1, e'[i]? = some (some w1) ∧ ∃ n, ixLi w1.view j = some n ∧ Wp (f e') fun y e' => ∃ m, intO y = some m ∧
    ∃ xs q, e'[i]? = some (some (.ml xs)) ∧ ixN xs.length j = some q ∧ xs.length ≤ lim ∧ Q .nx (e'.set i (some (.ml (xs.set q (.int (n + m))))))) := ⟨w_augI.mpr⟩
instance s_call {e : Env'} {as : List (Sum Nat (M D))} {F : M W} {Q : W → Env' → Prop} : WStep (Wp (callM as F e) Q) (Wp (evA as e) fun xs e' => Wp (apA xs F e') Q) := ⟨w_call.mpr⟩
instance s_apA {e : Env'} {xs : List Ag} {F : M W} {Q : W → Env' → Prop} : WStep (Wp (apA xs F e) Q) (∃ ws, getA e xs = some ws ∧ Wp (F (ws.map some)) fun w es => Q w (putA xs es (hidA xs e))) := ⟨w_apA.mpr⟩
instance s_ar0 {e : Env'} {Q : List Ag → Env' → Prop} : WStep (Wp (evA [] e) Q) (Q [] e) := ⟨w_ar0.mpr⟩
instance s_arv {e : Env'} {i : Nat} {r : List (Sum Nat (M D))} {Q : List Ag → Env' → Prop} : WStep (Wp (evA (.inl i :: r) e) Q) (∃ w, e[i]? = some (some w) ∧ Wp (evA r e) fun xs e' => Q (.inl i :: xs) e') := ⟨w_arv.mpr⟩
instance s_ard {e : Env'} {f : M D} {r : List (Sum Nat (M D))} {Q : List Ag → Env' → Prop} : WStep (Wp (evA (.inr f :: r) e) Q) (Wp (f e) fun d e' => Wp (evA r e') fun xs e' => Q (.inr d :: xs) e') := ⟨w_ard.mpr⟩
instance s_and {e : Env'} {t u : M Bool} {Q : Bool → Env' → Prop} : WStep (Wp (andM t u e) Q) (Wp (t e) fun c e' => if c = true then Wp (u e') Q else Q false e') := ⟨w_and.mpr⟩
instance s_or {e : Env'} {t u : M Bool} {Q : Bool → Env' → Prop} : WStep (Wp (orM t u e) Q) (Wp (t e) fun c e' => if c = true then Q true e' else Wp (u e') Q) := ⟨w_or.mpr⟩
instance s_not {e : Env'} {t : M Bool} {Q : Bool → Env' → Prop} : WStep (Wp (notM t e) Q) (Wp (t e) fun c e' => Q (!c) e') := ⟨w_not.mpr⟩
instance s_ifx {α : Type} {e : Env'} {t : M Bool} {f g : M α} {Q : α → Env' → Prop} : WStep (Wp (ifxM t f g e) Q) (Wp (t e) fun c e' => if c = true then Wp (f e') Q else Wp (g e') Q) := ⟨w_ifx.mpr⟩
instance s_andV {e : Env'} {f g : M D} {Q : D → Env' → Prop} : WStep (Wp (andV f g e) Q) (Wp (f e) fun d e' => ∃ c, truD d = some c ∧ if c = true then Wp (g e') Q else Q d e') := ⟨w_andV.mpr⟩
instance s_orV {e : Env'} {f g : M D} {Q : D → Env' → Prop} : WStep (Wp (orV f g e) Q) (Wp (f e) fun d e' => ∃ c, truD d = some c ∧ if c = true then Q d e' else Wp (g e') Q) := ⟨w_orV.mpr⟩
instance s_notV {e : Env'} {f : M D} {Q : D → Env' → Prop} : WStep (Wp (notV f e) Q) (Wp (f e) fun d e' => ∃ c, truD d = some c ∧ Q (.bl (!c)) e') := ⟨w_notV.mpr⟩
instance s_ch {e : Env'} {o1 o2 : D → D → Option W} {f g h : M D} {Q : D → Env' → Prop} : WStep (Wp (chM o1 o2 f g h e) Q) (Wp (f e) fun x e' => Wp (g e') fun y e' => ∃ k, ((o1 x y).bind fun w => boolD w.view) = some k ∧ if k = true then Wp (h e') fun z e' => ∃ w, o2 y z = some w ∧ Q w.view e' else Q (.bl false) e') := ⟨w_ch.mpr⟩
instance s_evl0 {e : Env'} {Q : List D → Env' → Prop} : WStep (Wp (evL [] e) Q) (Q [] e) := ⟨w_evl0.mpr⟩
instance s_evlc {e : Env'} {f : M D} {r : List (M D)} {Q : List D → Env' → Prop} : WStep (Wp (evL (f :: r) e) Q) (Wp (f e) fun d e' => Wp (evL r e') fun ds e' => Q (d :: ds) e') := ⟨w_evlc.mpr⟩
instance s_lst {α : Type} {e : Env'} {inj : W → α} {r : List (M D)} {Q : α → Env' → Prop} : WStep (Wp (lstM inj r e) Q) (Wp (evL r e) fun ds e' => Q (inj (.ml ds)) e') := ⟨w_lst.mpr⟩
instance s_tup {α : Type} {e : Env'} {inj : W → α} {r : List (M D)} {Q : α → Env' → Prop} : WStep (Wp (tupM inj r e) Q) (Wp (evL r e) fun ds e' => Q (inj (.sh (.tup ds))) e') := ⟨w_tup.mpr⟩
instance s_itM {e : Env'} {p : D → Option (List D)} {f : M D} {Q : List D → Env' → Prop} : WStep (Wp (itM p f e) Q) (Wp (f e) fun d e' => ∃ xs, p d = some xs ∧ Q xs e') := ⟨w_itM.mpr⟩
instance s_itM2 {e : Env'} {p : D → D → Option (List D)} {f g : M D} {Q : List D → Env' → Prop} : WStep (Wp (itM2 p f g e) Q) (Wp (f e) fun d e' => Wp (g e') fun d2 e' => ∃ xs, p d d2 = some xs ∧ Q xs e') := ⟨w_itM2.mpr⟩
instance s_bind {α : Type} {β : Type} {e : Env'} {f : M α} {g : α → M β} {Q : β → Env' → Prop} : WStep (Wp ((f >>= g) e) Q) (Wp (f e) fun a e' => Wp (g a e') Q) := ⟨w_bind.mpr⟩
instance s_par2 {e : Env'} {i : Nat} {j : Nat} {f g : M W} {Q : Fl → Env' → Prop} : WStep (Wp (par2 i j f g e) Q) (Wp (f e) fun x e' => Wp (g e') fun y e' => i < e'.length ∧ j < e'.length ∧ Q .nx ((e'.set i (some x)).set j (some y))) := ⟨w_par2.mpr⟩
instance s_par3 {e : Env'} {i : Nat} {j : Nat} {k : Nat} {f g h : M W} {Q : Fl → Env' → Prop} : WStep (Wp (par3 i j k f g h e) Q) (Wp (f e) fun x e' => Wp (g e') fun y e' => Wp (h e') fun z e' => i < e'.length ∧ j < e'.length ∧ k < e'.length ∧ Q .nx (((e'.set i (some x)).set j (some y)).set k (some z))) := ⟨w_par3.mpr⟩
instance s_asgT {e : Env'} {t : Tg} {f : M D} {Q : Fl → Env' → Prop} : WStep (Wp (asgT t f e) Q) (Wp (f e) fun d e' => ∃ e2, stT t d e' = some e2 ∧ Q .nx e2) := ⟨w_asgT.mpr⟩
instance s_mt1 {e : Env'} {i : Nat} {op : List D → D → Option (List D)} {f : M D} {Q : D → Env' → Prop} : WStep (Wp (mt1 i op f e) Q) (∃ w, e[i]? = some (some w) ∧ (∃ u, isMl w.view = some u) ∧ Wp (f e) fun y e' => ∃ xs ys, e'[i]? = some (some (.ml xs)) ∧ op xs y = some ys ∧ ys.length ≤ lim ∧ Q .non (e'.set i (some (.ml ys)))) := ⟨w_mt1.mpr⟩
instance s_mt2 {e : Env'} {i : Nat} {op : List D → D → D → Option (List D)} {f g : M D} {Q : D → Env' → Prop} : WStep (Wp (mt2 i op f g e) Q) (∃ w, e[i]? = some (some w) ∧ (∃ u, isMl w.view = some u) ∧ Wp (f e) fun x e' => Wp (g e') fun y e' => ∃ xs ys, e'[i]? = some (some (.ml xs)) ∧ op xs x y = some ys ∧ ys.length ≤ lim ∧ Q .non (e'.set i (some (.ml ys)))) := ⟨w_mt2.mpr⟩
instance s_slN {α : Type} {e : Env'} {i : Nat} {inj : W → α} {l u : M (Option Int)} {Q : α → Env' → Prop} : WStep (Wp (slN inj i l u e) Q) (∃ w0, e[i]? = some (some w0) ∧ Wp (l e) fun lo e' => Wp (u e') fun hi e' => ∃ w1, e'[i]? = some (some w1) ∧ ∃ w, slD w1.view lo hi = some w ∧ Q (inj w) e') := ⟨w_slN.mpr⟩
instance s_slM {α : Type} {e : Env'} {inj : W → α} {f : M D} {l u : M (Option Int)} {Q : α → Env' → Prop} : WStep (Wp (slM inj f l u e) Q) (Wp (f e) fun d e' => Wp (l e') fun lo e' => Wp (u e') fun hi e' => ∃ w, slD d lo hi = some w ∧ Q (inj w) e') := ⟨w_slM.mpr⟩
instance s_noE {e : Env'} {Q : Option Int → Env' → Prop} : WStep (Wp (noE e) Q) (Q none e) := ⟨w_noE.mpr⟩
instance s_someE {e : Env'} {f : M D} {Q : Option Int → Env' → Prop} : WStep (Wp (someE f e) Q) (Wp (f e) fun d e' => ∃ j, intO d = some j ∧ Q (some j) e') := ⟨w_someE.mpr⟩
instance s_yes {e : Env'} {Q : Bool → Env' → Prop} : WStep (Wp (yesM e) Q) (Q true e) := ⟨w_yes.mpr⟩
instance s_setF {e : Env'} {i : Nat} {c : Nat} {n : Str} {f : M D} {Q : Fl → Env' → Prop} : WStep (Wp (setF i c n f e) Q) (Wp (f e) fun y e' => ∃ ns ds, e'[i]? = some (some (.mo c ns ds)) ∧ ns.length < 1000 ∧ Q .nx (e'.set i (some (.mo c (putN n ns) (putD n y ns ds))))) := ⟨w_setF.mpr⟩
instance s_methM {e : Env'} {i : Nat} {c : Nat} {m : Str} {as : List (Sum Nat (M D))} {F : M W} {Q : W → Env' → Prop} : WStep (Wp (methM c m i as F e) Q) (∃ w, e[i]? = some (some w) ∧ (∃ u, chkO c m w.view = some u) ∧ Wp (evA as e) fun xs e' => Wp (apA (.inl i :: xs) F e') Q) := ⟨w_methM.mpr⟩
instance s_methV {e : Env'} {c : Nat} {m : Str} {g : M D} {as : List (Sum Nat (M D))} {F : M W} {Q : W → Env' → Prop} : WStep (Wp (methV c m g as F e) Q) (Wp (g e) fun d e' => (∃ u, chkO c m d = some u) ∧ Wp (evA as e') fun xs e' => Wp (apA (.inr d :: xs) F e') Q) := ⟨w_methV.mpr⟩
instance s_make {e : Env'} {c : Nat} {as : List (Sum Nat (M D))} {F : M W} {Q : W → Env' → Prop} : WStep (Wp (makeM c as F e) Q) (Wp (evA as e) fun xs e' => Wp (apN c xs F e') Q) := ⟨w_make.mpr⟩
instance s_apN {e : Env'} {c : Nat} {xs : List Ag} {F : M W} {Q : W → Env' → Prop} : WStep (Wp (apN c xs F e) Q) (∃ ws, getA e xs = some ws ∧ Wp (F (some (.mo c [] []) :: ws.map some)) fun w es => w = .sh .non ∧ ∃ w2 es2, es = some w2 :: es2 ∧ Q w2 (putA xs es2 (hidA xs e))) := ⟨w_apN.mpr⟩
instance s_own {e : Env'} {c : Nat} {chk : D → Option Unit} {post : W → Option W} {f g : M D} {F : M W} {Q : W → Env' → Prop} : WStep (Wp (ownM c chk post f g F e) Q) (Wp (f e) fun x e' => Wp (g e') fun y e' => (∃ u, chkC c x = some u) ∧ (∃ u, chk y = some u) ∧ Wp (apA [.inr x, .inr y] F e') fun w e' => ∃ w', post w = some w' ∧ Q w' e') := ⟨w_own.mpr⟩
instance s_len {e : Env'} {c : Nat} {f : M D} {F : M W} {Q : W → Env' → Prop} : WStep (Wp (lenM c f F e) Q) (Wp (f e) fun x e' => (∃ u, chkC c x = some u) ∧ Wp (apA [.inr x] F e') fun w e' => ∃ w', lenW w = some w' ∧ Q w' e') := ⟨w_len.mpr⟩
instance s_itM3  {e : Env'} {p : D → D → D → Option (List D)} {f g h : M D} {Q : List D → Env' → Prop} : WStep (Wp (itM3 p f g h e) Q) (Wp (f e) fun d e' => Wp (g e') fun d2 e' => Wp (h e') fun d3 e' => ∃ xs, p d d2 d3 = some xs ∧ Q xs e') := ⟨w_itM3.mpr⟩
instance s_repr  {e : Env'} {c : Nat} {f : M D} {F : M W} {Q : W → Env' → Prop} : WStep (Wp (reprM c f F e) Q) (Wp (f e) fun x e' => (∃ u, chkC c x = some u) ∧ Wp (apA [.inr x] F e') fun w e' => ∃ w', strW w = some w' ∧ Q w' e') := ⟨w_repr.mpr⟩
instance s_fs0  {e : Env'} {acc : List Nat} {Q : D → Env' → Prop} : WStep (Wp (fsM acc [] e) Q) (Q (.str acc) e) := ⟨w_fs0.mpr⟩
instance s_fsc  {e : Env'} {acc : List Nat} {f : M D} {fs : List (M D)} {Q : D → Env' → Prop} : WStep (Wp (fsM acc (f :: fs) e) Q) (Wp (f e) fun d e' => ∃ a, catO acc d = some a ∧ Wp (fsM a fs e') Q) := ⟨w_fsc.mpr⟩
instance s_ite_t {A B : Prop} {i : Decidable (true = true)} : WStep (@ite Prop (true = true) i A B) A := ⟨ite_t⟩
instance s_ite_f {A B : Prop} {i : Decidable (false = true)} : WStep (@ite Prop (false = true) i A B) B := ⟨ite_f⟩
instance s_ite_nn {A B : Prop} {i : Decidable (D.isNon .non = true)} : WStep (@ite Prop (D.isNon .non = true) i A B) A := ⟨ite_nn⟩
instance s_ite_ni {A B : Prop} {n : Int} {i : Decidable (D.isNon (.int n) = true)} : WStep (@ite Prop (D.isNon (.int n) = true) i A B) B := ⟨ite_ni⟩
instance s_ite_ns {A B : Prop} {n : List Nat} {i : Decidable (D.isNon (.str n) = true)} : WStep (@ite Prop (D.isNon (.str n) = true) i A B) B := ⟨ite_ns⟩
instance s_ite_nt {A B : Prop} {n : List D} {i : Decidable (D.isNon (.tup n) = true)} : WStep (@ite Prop (D.isNon (.tup n) = true) i A B) B := ⟨ite_nt⟩
instance s_ite_nl {A B : Prop} {n : List D} {i : Decidable (D.isNon (.lst n) = true)} : WStep (@ite Prop (D.isNon (.lst n) = true) i A B) B := ⟨ite_nl⟩
end Wc
namespace Wc
open PySem L2
def noX : R Fl → R Fl
  | .exc _ _ _ _ => .bad
  | r => r
def unR (i : Nat) : R Fl → R Fl
  | .ok (.ret w) e => .ok (.ret w) e
  | .ok fl e => .ok fl (e.set i none)
  | _ => .bad
/-- the clauses: the classes that are caught, those that are not, the name's slot, the suite -/
def hdl (c : Nat) (ns : List Str) (ds : List D) : List (List Nat × List Nat × Option Nat × M Fl) → Env' → R Fl
  | [], env => .exc c ns ds env
  | (yes, no, o, G) :: r, env => if yes.contains c = true then (match o with
      | none => noX (G env)
      | some i => if i < env.length then unR i (G (env.set i (some (.sh (.exn c ns ds))))) else .bad) else if no.contains c = true then hdl c ns ds r env else .bad
section
variable {X : Cx} {T : Cl} {Wx : WX} {as : List Nat} {σ : St} {O : Addr → Prop} {Z H : Hp} {D : Ends}
inductive HT (X : Cx) (T : Cl) (as : List Nat) : List ExceptHandler → List (List Nat × List Nat × Option Nat × M Fl) → Prop
  | nil : HT X T as [] []
  | only {x : Str} {c : Value} {yes no : List Nat} {G : M Fl} {b₀ : Stmt} {su : List Stmt} {np p : Pos} {hs : List ExceptHandler} {l : List (List Nat × List Nat × Option Nat × M Fl)} (hc : Names X x c) (hy : ∀ k ∈ yes, PySem.W.exmOne X.K (.ref (T.ca k)) c = some true) (hn : ∀ k ∈ no, PySem.W.exmOne X.K (.ref (T.ca k)) c = some false)
      (hsu : ∀ a pn, PSs (X.suite a pn) (b₀ :: su) (TSF T W0 as G)) (r : HT X T as hs l) : HT X T as (.ExceptHandler (some (.Name x np)) none (b₀ :: su) p :: hs) ((yes, no, none, G) :: l)
  | named {x n : Str} {i : Nat} {c : Value} {yes no : List Nat} {G : M Fl} {b₀ : Stmt} {su : List Stmt} {np p : Pos} {hs : List ExceptHandler} {l : List (List Nat × List Nat × Option Nat × M Fl)} (hc : Names X x c) (hi : X.N[i]? = some n) (hl : X.env.kindOf n = some .local) (ha : i ∈ as)
      (hy : ∀ k ∈ yes, PySem.W.exmOne X.K (.ref (T.ca k)) c = some true) (hn : ∀ k ∈ no, PySem.W.exmOne X.K (.ref (T.ca k)) c = some false)
      (hsu : ∀ a pn, PSs (X.suite a pn) (b₀ :: su) (TSF T W0 as G)) (r : HT X T as hs l) : HT X T as (.ExceptHandler (some (.Name x np)) (some n) (b₀ :: su) p :: hs) ((yes, no, some i, G) :: l)
end
end Wc
namespace Wc
open PySem L2
abbrev XQ := Nat → List Str → List D → Env' → Prop
/-- it ends well with Q, or raises with E -/
inductive Wq {α : Type} : R α → (α → Env' → Prop) → XQ → Prop
  | ok {a : α} {e : Env'} {Q : α → Env' → Prop} {E : XQ} (h : Q a e) : Wq (.ok a e) Q E
  | exc {c : Nat} {ns : List Str} {ds : List D} {e : Env'} {Q : α → Env' → Prop} {E : XQ} (h : E c ns ds e) : Wq (.exc c ns ds e) Q E
section
variable {α β : Type} {e e1 : Env'} {i j k : Nat} {E : XQ}
theorem Wq.mono {r : R α} {Q Q' : α → Env' → Prop} {E' : XQ} (h : Wq r Q E) (k : ∀ a e, Q a e → Q' a e) (k2 : ∀ c ns ds e, E c ns ds e → E' c ns ds e) : Wq r Q' E' := by
  cases h with
  | ok h => exact .ok (k _ _ h)
  | exc h => exact .exc (k2 _ _ _ _ h)
end
end Wc
namespace Wc
open PySem L2
def asgL (ts : List Tg) (f : M D) : M Fl := f >>= fun d env => match d with
  | .lst ds => (match stTs ts ds env with
    | some e => .ok .nx e
    | none => .bad)
  | _ => .bad
section
variable {X : Cx} {T : Cl} {Wx : WX} {ss : List Nat} {es : List Expr} {e : Expr} {ts : List Tg} {f : M D} {k n : Nat} {pos pos' : Pos}
theorem w_asgL {e : Env'} {Q : Fl → Env' → Prop} : Wp (asgL ts f e) Q ↔ Wp (f e) fun d e' => ∃ ds, d = .lst ds ∧ ∃ e2, stTs ts ds e' = some e2 ∧ Q .nx e2 := by
  show Wp (R.bind (f e) fun d env => match d with
    | .lst ds => (match stTs ts ds env with
      | some e => .ok .nx e
      | none => .bad)
    | _ => .bad) Q ↔ _
  rw [w_rb]
  refine w_iff fun d e' => ?_
  cases d with
  | lst ds =>
    simp only
    cases q : stTs ts ds e' with
    | none => simp [q]
    | some e2 => simp [q]
  | _ => simp
end
end Wc
namespace Wc
open PySem L2
instance s_asgL {ts : List Tg} {f : M D} {e : Env'} {Q : Fl → Env' → Prop} : WStep (Wp (asgL ts f e) Q) (Wp (f e) fun d e' => ∃ ds, d = .lst ds ∧ ∃ e2, stTs ts ds e' = some e2 ∧ Q .nx e2) := ⟨w_asgL.mpr⟩
end Wc
namespace Wc
open PySem PySem.Spec PyProof.Rows L2
section
variable {P : Program} {w : World} {κ : Type} [DecidableEq κ] {kd : KeyKind P w κ}
inductive Ents (kd : KeyKind P w κ) : List (Int × Value) → List κ → Prop
  | nil : Ents kd [] []
  | cons {e : Int × Value} {k : κ} {es : List (Int × Value)} {ks : List κ} : kd.is k e.2 = true → e.1 = kd.hash k → e.2.scannable = true → Ents kd es ks → Ents kd (e :: es) (k :: ks)
theorem Ents.len {es : List (Int × Value)} {ks : List κ} (h : Ents kd es ks) : es.length = ks.length := by
  induction h with
  | nil => rfl
  | cons _ _ _ _ ih => simp [ih]
theorem Ents.perm {es es' : List (Int × Value)} (p : es'.Perm es) : ∀ {ks : List κ}, Ents kd es ks → ∃ ks', Ents kd es' ks' ∧ ks'.Perm ks := by
  induction p with
  | nil => intro ks h; exact ⟨ks, h, .refl _⟩
  | cons x p ih =>
    intro ks h
    cases h with
    | cons a b c d =>
      obtain ⟨ks', h1, h2⟩ := ih d
      exact ⟨_, .cons a b c h1, h2.cons _⟩
  | swap x y l =>
    intro ks h
    cases h with
    | cons a b c d =>
      cases d with
      | cons a2 b2 c2 d2 => exact ⟨_, .cons a2 b2 c2 (.cons a b c d2), .swap _ _ _⟩
  | trans p q ih1 ih2 =>
    intro ks h
    obtain ⟨k1, h1, h2⟩ := ih2 h
    obtain ⟨k2, h3, h4⟩ := ih1 h1
    exact ⟨k2, h3, h4.trans h2⟩
theorem Ents.elems {es : List (Int × Value)} {ks : List κ} (h : Ents kd es ks) : ElemsOf kd es := by
  induction h with
  | nil => intro e he; cases he
  | cons a b c _ ih =>
    intro e he
    rcases List.mem_cons.mp he with rfl | he
    · exact ⟨⟨_, a, b⟩, c⟩
    · exact ih e he
theorem Ents.has {es : List (Int × Value)} {ks : List κ} (h : Ents kd es ks) (k : κ) : k ∈ ks ↔ ∃ e ∈ es, kd.is k e.2 = true := by
  induction h with
  | nil => simp
  | @cons e k' es ks a b c _ ih =>
    rw [List.mem_cons, ih]
    constructor
    · rintro (rfl | ⟨x, hx, q⟩)
      · exact ⟨e, List.mem_cons_self, a⟩
      · exact ⟨x, List.mem_cons_of_mem _ hx, q⟩
    · rintro ⟨x, hx, q⟩
      rcases List.mem_cons.mp hx with rfl | hx
      · exact .inl (kd.inj _ _ _ q a)
      · exact .inr ⟨x, hx, q⟩
/-- at a stands a set of just these keys -/
def SetG (kd : KeyKind P w κ) (h : Heap) (a : Addr) (ks : List κ) : Prop :=
  ∃ ob xs ep tb, h.get? a = some ob ∧ ob.ExactSet ∧ ob.data = .set xs ep tb ∧ Ents kd xs.toList ks ∧ ks.Nodup ∧ xs.size < scanBound ∧ tb.fits xs.size = true ∧ Ris tb.place.toList ∧ (w.params.followText "set-order" = true ∨ tb.led = true)
theorem SetG.keep {h h' : Heap} {a : Addr} {ks : List κ} (R : SetG kd h a ks) (k : ∀ o, h.get? a = some o → h'.get? a = some o) : SetG kd h' a ks := by
  obtain ⟨ob, xs, ep, tb, h1, r⟩ := R
  exact ⟨ob, xs, ep, tb, k _ h1, r⟩
section
variable {A : Around} {E : Value → Shared → Prop} {s : Shared} {a : Addr} {ks : List κ}
theorem setG_tail {gv : Bool → Sem Unit} (quiet : ∀ (b : Bool) (s₁ : Shared) (Q' : Unit → Shared → Prop), Q' () s₁ → wpAny (model P w) A (gv b) Q' E s₁)
    {ob : Obj} {xs : Array (Int × Value)} {ep : Nat} {tb : SetTable} (gO : s.heap.get? a = some ob) (xO : ob.ExactSet) (dO : ob.data = .set xs ep tb)
    {ys : Array (Int × Value)} {t2 : SetTable} {ls : List κ} (en : Ents kd ys.toList ls) (nd : ls.Nodup) (sz : ys.size < scanBound) (ft : t2.fits ys.size = true) (rs : Ris t2.place.toList) (ld : w.params.followText "set-order" = true ∨ t2.led = true)
    {wasD : Bool} {R : Option Bool → Shared → Prop} (hR : ∀ h' ls', Heap.SameBut a s.heap h' → SetG kd h' a ls' → ls'.Perm ls → R (some true) { s with heap := h' }) :
    wpAny (model P w) A (do
        storeSet a ys t2
        if (!wasD && t2.tooFull) = true then do
            gv (relayAll t2 ys (SetTable.grown ys.size)).2.2
            storeSet a (relayAll t2 ys (SetTable.grown ys.size)).1 (relayAll t2 ys (SetTable.grown ys.size)).2.1
            pure (some true)
          else pure (some true)) R E s := by
  refine wpAny_bind (wpAny_storeSet_of gO dO ?_ (fits_of_scanBound sz))
  have gO1 := store_at (es' := ys) (t' := t2) gO dO
  have same1 := Heap.SameBut.update s.heap a (Obj.putSet ys t2)
  split
  · have p1 := relayAll_perm t2 ys (SetTable.grown ys.size)
    have p2 := relayAll_fits t2 ys (SetTable.grown ys.size)
    have p3 := relayAll_ris t2 ys (SetTable.grown ys.size)
    have p4 := relayAll_led t2 ys (SetTable.grown ys.size)
    generalize relayAll t2 ys (SetTable.grown ys.size) = Y at p1 p2 p3 p4 ⊢
    obtain ⟨zs, t3, gave⟩ := Y
    dsimp only at p1 p2 p3 p4 ⊢
    have sz2 : zs.size = ys.size := by
      have := p1.length_eq
      simpa using this
    refine wpAny_bind (quiet _ _ _ (wpAny_bind (wpAny_storeSet_of gO1 rfl ?_ (fits_of_scanBound (by rw [sz2]; exact sz)))))
    have gO2 := store_at (es' := zs) (t' := t3) gO1 rfl
    obtain ⟨ls', e1, e2⟩ := en.perm p1
    exact wpAny_pure (hR _ ls' (same1.trans (Heap.SameBut.update _ a _)) ⟨_, zs, _, t3, gO2, xO, rfl, e1, e2.nodup_iff.mpr nd, by rw [sz2]; exact sz, p2, p3, ld.imp id fun z => by rw [p4]; exact z⟩ e2)
  · exact wpAny_pure (hR _ ls same1 ⟨_, ys, _, t2, gO1, xO, rfl, en, nd, sz, ft, rs, ld⟩ (.refl _))
theorem setG_put {k : κ} {v : Value} {Q : Bool → Shared → Prop} (R : SetG kd s.heap a ks) (hk : kd.is k v = true) (sc : v.scannable = true) (room : ks.length + 1 < scanBound)
    (hQ : ∀ h' ls', Heap.SameBut a s.heap h' → SetG kd h' a ls' → (if k ∈ ks then ls' = ks else ls'.Perm (k :: ks)) → Q (!decide (k ∈ ks)) { s with heap := h' }) :
    wpAny (model P w) A (setAddHashed a v (kd.hash k)) Q E s := by
  obtain ⟨ob, xs, ep, tb, gO, xO, dO, en, nd, sz, ft, rs, ld⟩ := R
  have el : ElemsOf kd xs.toList := en.elems
  unfold setAddHashed setAddHashedIn
  refine wpAny_holding (wpAny_bind (wpAny_setState_of gO dO ft ?_))
  dsimp only
  rw [byScan_of sc sz el]
  simp only [↓reduceIte]
  unfold setAddByScan
  refine wpAny_bind (wpAny_bind (wpAny_rule (wpAny_bind (wpAny_setScan_of hk gO dO ft el ?_))))
  cases fi : List.findIdx? (fun e => kd.is k e.2) xs.toList with
  | some j =>
    dsimp only
    obtain ⟨hj, pj, _⟩ := List.findIdx?_eq_some_iff_getElem.mp fi
    have inn : k ∈ ks := (en.has k).mpr ⟨xs.toList[j], List.getElem_mem hj, pj⟩
    have q := hQ s.heap ks (Heap.SameBut.refl a s.heap) ⟨ob, xs, ep, tb, gO, xO, dO, en, nd, sz, ft, rs, ld⟩ (by rw [if_pos inn])
    rw [decide_eq_true inn] at q
    exact wpAny_pure (wpAny_pure q)
  | none =>
    dsimp only
    have out : k ∉ ks := fun z => by
      obtain ⟨e, he, q⟩ := (en.has k).mp z
      have c := List.findIdx?_eq_none_iff.mp fi e he
      rw [q] at c; cases c
    have gave : ∀ (b : Bool) {s₁ : Shared} {Q' : Unit → Shared → Prop}, Q' () s₁ → wpAny (model P w) A (match b with
        | true => rule "set.scan.the-table-gave-way"
        | false => pure ()) Q' E s₁ := fun b s₁ Q' q => by
      cases b
      · exact wpAny_pure q
      · exact wpAny_rule q
    have p1 := layNew_perm tb xs (kd.hash k) v
    have p2 := layNew_fits tb xs (kd.hash k) v
    have p3 := layNew_ris tb xs (kd.hash k) v rs
    have p4 := layNew_led tb xs (kd.hash k) v
    generalize layNew tb xs (kd.hash k) v = Y at p1 p2 p3 p4 ⊢
    obtain ⟨ys, t1, wasD, gv⟩ := Y
    dsimp only at p1 p2 p3 p4 ⊢
    rw [Array.toList_push] at p1
    have pc : ys.toList.Perm ((kd.hash k, v) :: xs.toList) := p1.trans (List.perm_append_singleton _ _)
    obtain ⟨ls, en2, pl⟩ := (Ents.cons (e := (kd.hash k, v)) hk rfl sc en).perm pc
    have nd2 : ls.Nodup := pl.nodup_iff.mpr (List.nodup_cons.mpr ⟨out, nd⟩)
    have sz2 : ys.size < scanBound := by
      have h1 := en2.len
      have h2 := pl.length_eq
      rw [Array.length_toList] at h1
      rw [List.length_cons] at h2
      omega
    have led2 : w.params.followText "set-order" = true ∨ t1.led = true := ld.imp id fun z => by rw [p4]; exact z
    have fin : ∀ h' ls', Heap.SameBut a s.heap h' → SetG kd h' a ls' → ls'.Perm ls → Q true { s with heap := h' } := fun h' ls' sb r pp => by
      have q := hQ h' ls' sb r (by rw [if_neg out]; exact pp.trans pl)
      rw [decide_eq_false out] at q
      exact q
    refine wpAny_bind (gave _ ?_)
    have quiet : ∀ (b : Bool) (s₁ : Shared) (Q' : Unit → Shared → Prop), Q' () s₁ → wpAny (model P w) A (match b with
        | true => rule "set.scan.the-table-gave-way"
        | false => pure ()) Q' E s₁ := fun b s₁ Q' q => gave b q
    split
    · refine wpAny_bind ?_
      rw [hashByValue_scannable 8 sc]
      refine wpAny_pure (setG_tail ?_ gO xO dO en2 nd2 sz2 ?_ ?_ ?_ ?_)
      · intro b s₁ Q' q
        cases b
        · exact wpAny_pure q
        · exact wpAny_rule q
      · first | (split <;> first | exact p2 | exact SetTable.fits_plain_off p2) | exact p2
      · first | (split <;> exact p3) | exact p3
      · first | (split <;> exact led2) | exact led2
      · intro h' ls' sb r pp
        dsimp only
        exact wpAny_pure (fin h' ls' sb r pp)
    · refine wpAny_bind (wpAny_pure ?_)
      simp only [↓reduceIte]
      refine setG_tail ?_ gO xO dO en2 nd2 sz2 p2 p3 led2 ?_
      · intro b s₁ Q' q
        cases b
        · exact wpAny_pure q
        · exact wpAny_rule q
      · intro h' ls' sb r pp
        dsimp only
        exact wpAny_pure (fin h' ls' sb r pp)
end
end
end Wc
namespace Wc
open PySem PySem.Spec PyProof.Rows L2
section
variable {P : Program} {w : World} {κ : Type} [DecidableEq κ] {kd : KeyKind P w κ}
theorem setG_new {h : Heap} {a : Addr} (ho : h.get? a = some { cls := .type "set", dict := none, data := .set #[] 0 (.fresh 0 0 (!w.params.followText "set-order")) }) : SetG kd h a [] := by
  refine ⟨_, #[], 0, _, ho, ⟨rfl, rfl, rfl⟩, rfl, .nil, List.nodup_nil, by decide, by rfl, List.Pairwise.nil, ?_⟩
  show _ ∨ (!w.params.followText "set-order") = true
  cases w.params.followText "set-order"
  · exact .inr rfl
  · exact .inl rfl
end
end Wc
namespace Wc
open PySem PySem.Spec PyProof.Rows L2
section
variable {P : Program} {w : World}
theorem Ents.texts {es : List (Int × Value)} {ks : List Key} (h : Ents (mixKind P w) es ks) : ∀ {xs : List Str}, ks = xs.map Sum.inr → StrsAre (es.map (·.2)) xs := by
  induction h with
  | nil =>
    intro xs e
    cases xs with
    | nil => exact .nil
    | cons x xs => exact nomatch e
  | @cons q k es ks a b c _ ih =>
    intro xs e
    cases xs with
    | nil => exact nomatch e
    | cons x xs =>
      obtain ⟨e1, e2⟩ := List.cons.inj e
      subst e1
      obtain ⟨t, ev⟩ := Value.isStrOf_shape (x := x) (v := q.2) a
      rw [List.map_cons, ev]
      exact .cons x t (ih e2)
theorem Ents.wholes {es : List (Int × Value)} {ks : List Key} (h : Ents (mixKind P w) es ks) : ∀ {xs : List Int}, ks = xs.map Sum.inl → IntsAre (es.map (·.2)) xs := by
  induction h with
  | nil =>
    intro xs e
    cases xs with
    | nil => exact .nil
    | cons x xs => exact nomatch e
  | @cons q k es ks a b c _ ih =>
    intro xs e
    cases xs with
    | nil => exact nomatch e
    | cons x xs =>
      obtain ⟨e1, e2⟩ := List.cons.inj e
      subst e1
      obtain ⟨t, ev⟩ := Value.isInt_shape (k := x) (v := q.2) a
      rw [List.map_cons, ev]
      exact .cons x t (ih e2)
theorem texts_perm {us vs : List Value} {xs : List Str} (h : StrsAre us xs) (p : vs.Perm us) : ∃ ys, StrsAre vs ys ∧ ys.Perm xs := by
  refine ⟨vs.map strOf, strsAre_map vs fun v hv => h.all v (p.mem_iff.mp hv), ?_⟩
  have q := p.map strOf
  rw [h.strs] at q
  exact q
theorem wholes_perm {us vs : List Value} {xs : List Int} (h : IntsAre us xs) (p : vs.Perm us) : ∃ ys, IntsAre vs ys ∧ ys.Perm xs := by
  refine ⟨vs.map SrtO.iv, SrtO.ints_iv fun v hv => SrtO.ints_mem h v (p.mem_iff.mp hv), ?_⟩
  have q := p.map SrtO.iv
  rw [SrtO.iv_ints h] at q
  exact q
section
variable {A : Around} {E : Value → Shared → Prop} {s : Shared} {a : Addr}
theorem sorted_texts {xs : List Str} {Q : Value → Shared → Prop} (R : SetG (mixKind P w) s.heap a (xs.map Sum.inr)) (hh : A.handled = none)
    (hQ : ∀ (s' : Shared) (p : Addr) (out : Array Value) (c : Nat) (ys : List Str), (∀ b o, s.heap.get? b = some o → s'.heap.get? b = some o) → s'.gens = s.gens → s'.os = s.os → s.heap.objs.size ≤ p → s'.heap.get? p = some (seqObj "list" out c) → StrsAre out.toList ys → ys.Perm xs → sortedS ys = true → ys.length ≤ sizeLine → Q (.ref p) s') :
    wpAny (model P w) A (call (.builtin "sorted") [.ref a]) Q E s := by
  obtain ⟨o, es, ep, t, ho, hex, hd, en, nd, hb, hf, hr, hl⟩ := R
  have hzn : xs.length = es.size := by
    have z := en.len
    rw [Array.length_toList, List.length_map] at z
    exact z.symm
  have room : xs.length ≤ sizeLine := by rw [hzn]; exact fits_of_scanBound hb
  refine Calls.call_function_entry PyProof.Rows.kind_sorted PyProof.Rows.plain_sorted PyProof.Rows.entry_sorted (PyProof.Rows.args_sorted1 _) ?_
  unfold Builtin.«sorted»
  refine wpAny_bind (m := checkCount "sorted" 1 1 _) (wpAny_pure ?_)
  refine wpAny_bind (collect_set (A := A.in1) hh ⟨o, ho, hex.1, hd⟩ hf hb hr hl fun s1 vs k1 hz g1 o1 pm => ?_)
  obtain ⟨y0, i0, p0⟩ := texts_perm (en.texts rfl) pm
  have z0 : vs.length ≤ sizeLine := by rw [i0.length, p0.length_eq]; exact room
  refine wpAny_bind (wpAny_newList ?_ z0)
  have hoL : (s1.heap.push (seqObj "list" vs.toArray 0)).get? s1.heap.objs.size = some (seqObj "list" vs.toArray 0) := Heap.get?_push_size _ rfl
  refine wpAny_bind (wpAny_holding (wpAny_call_entry PyProof.Rows.slot_list_sort ⟨_, hoL, rfl⟩ PyProof.Rows.entry_list_sort (list_sort_treeKAny strKind_oneLt hoL i0.keysOf (fun v₁ v₂ rest e => keyKind_strs (by rw [← e]; exact i0)) z0 fun st hp hs => ⟨_, rfl, ?_⟩) (PyProof.Rows.args_list_sort _)))
  obtain ⟨ys, q1, q2, q3⟩ := sorted_out_str i0 hp hs
  obtain ⟨c, hc⟩ := PyProof.Rows.sortedHeap_at (vs := vs) (out := ((arrOf st).map (·.2))) hoL
  refine wpAny_pure ⟨_, rfl, hQ _ s1.heap.objs.size ((arrOf st).map (·.2)) c ys (fun b u e => ?_) g1 o1 hz hc q1 (q2.trans p0) q3 (by rw [(q2.trans p0).length_eq]; exact room)⟩
  have q := k1 b u e
  have lt := Heap.lt_size q
  rw [PyProof.Rows.sortedHeap_old (Nat.ne_of_lt lt) (by rw [size_push']; exact Nat.lt_succ_of_lt lt)]
  exact Heap.get?_push_of_some _ q
theorem sorted_wholes {xs : List Int} {Q : Value → Shared → Prop} (R : SetG (mixKind P w) s.heap a (xs.map Sum.inl)) (hh : A.handled = none)
    (hQ : ∀ (s' : Shared) (p : Addr) (out : Array Value) (c : Nat) (ys : List Int), (∀ b o, s.heap.get? b = some o → s'.heap.get? b = some o) → s'.gens = s.gens → s'.os = s.os → s.heap.objs.size ≤ p → s'.heap.get? p = some (seqObj "list" out c) → IntsAre out.toList ys → ys.Perm xs → ys.Pairwise (· ≤ ·) → ys.length ≤ sizeLine → Q (.ref p) s') :
    wpAny (model P w) A (call (.builtin "sorted") [.ref a]) Q E s := by
  obtain ⟨o, es, ep, t, ho, hex, hd, en, nd, hb, hf, hr, hl⟩ := R
  have hzn : xs.length = es.size := by
    have z := en.len
    rw [Array.length_toList, List.length_map] at z
    exact z.symm
  have room : xs.length ≤ sizeLine := by rw [hzn]; exact fits_of_scanBound hb
  refine Calls.call_function_entry PyProof.Rows.kind_sorted PyProof.Rows.plain_sorted PyProof.Rows.entry_sorted (PyProof.Rows.args_sorted1 _) ?_
  unfold Builtin.«sorted»
  refine wpAny_bind (m := checkCount "sorted" 1 1 _) (wpAny_pure ?_)
  refine wpAny_bind (collect_set (A := A.in1) hh ⟨o, ho, hex.1, hd⟩ hf hb hr hl fun s1 vs k1 hz g1 o1 pm => ?_)
  obtain ⟨y0, i0, p0⟩ := wholes_perm (en.wholes rfl) pm
  have z0 : vs.length ≤ sizeLine := by rw [i0.length, p0.length_eq]; exact room
  refine wpAny_bind (wpAny_newList ?_ z0)
  have hoL : (s1.heap.push (seqObj "list" vs.toArray 0)).get? s1.heap.objs.size = some (seqObj "list" vs.toArray 0) := Heap.get?_push_size _ rfl
  refine wpAny_bind (wpAny_holding (wpAny_call_entry PyProof.Rows.slot_list_sort ⟨_, hoL, rfl⟩ PyProof.Rows.entry_list_sort (list_sort_treeAny hoL i0 z0 fun out ys q1 q2 q3 => ⟨_, rfl, ?_⟩) (PyProof.Rows.args_list_sort _)))
  skip
  obtain ⟨c, hc⟩ := PyProof.Rows.sortedHeap_at (vs := vs) (out := out) hoL
  refine wpAny_pure ⟨_, rfl, hQ _ s1.heap.objs.size out c ys (fun b u e => ?_) g1 o1 hz hc q1 (q2.trans p0) q3 (by rw [(q2.trans p0).length_eq]; exact room)⟩
  have q := k1 b u e
  have lt := Heap.lt_size q
  rw [PyProof.Rows.sortedHeap_old (Nat.ne_of_lt lt) (by rw [size_push']; exact Nat.lt_succ_of_lt lt)]
  exact Heap.get?_push_of_some _ q
end
end
end Wc
namespace Wc
open PySem PySem.Spec PyProof.Rows L2
def SetM (P : Program) (w : World) (a : Addr) (ks : List Key) : HO := .ext fun h => SetG (mixKind P w) h a ks
theorem setM_new {w : World} {P : Program} {H : Hp} {h : Heap} {a : Addr} {ks : List Key} (R : SetG (mixKind P w) h a ks) : ObjOk P w H h a (SetM P w a ks) := by
  have ⟨o, _, _, _, ho, _⟩ := R
  exact ⟨R, ⟨o, ho⟩, fun h1 h2 p k => SetG.keep p k⟩
theorem setG_nodup {P : Program} {w : World} {h : Heap} {a : Addr} {ks : List Key} (R : SetG (mixKind P w) h a ks) : ks.Nodup := by
  obtain ⟨_, _, _, _, _, _, _, _, nd, _⟩ := R
  exact nd
theorem keysAt {ks : List Key} {us : List Value} (r : Vals (ks.map kV) us) : ∀ (i : Nat) (v : Value), us[i]? = some v → ∃ k, ks[i]? = some k ∧ RelV (kV k) v := by
  induction ks generalizing us with
  | nil => cases r; intro i v e; simp at e
  | cons k ks ih =>
    cases r with
    | cons r1 r2 =>
      intro i v e
      cases i with
      | zero =>
        obtain rfl : _ = v := Option.some.inj e
        exact ⟨k, rfl, r1⟩
      | succ i => exact ih r2 i v e
section
variable {X : Cx}
def rSortT (X : Cx) : List V → Hp → VK → Prop := fun vs H Q => ∃ (a : Addr) (xs : List Str), vs = [V.ref a] ∧ H a = some (SetM X.prog X.w a (xs.map Sum.inr)) ∧
  ∀ (ys : List Str) (p : Addr), ys.Perm xs → sortedS ys = true → H p = none → Q (.ref p) (upd H p (.lst (ys.map V.str)))
def rSortW (X : Cx) : List V → Hp → VK → Prop := fun vs H Q => ∃ (a : Addr) (xs : List Int), vs = [V.ref a] ∧ H a = some (SetM X.prog X.w a (xs.map Sum.inl)) ∧
  ∀ (ys : List Int) (p : Addr), ys.Perm xs → ys.Pairwise (· ≤ ·) → H p = none → Q (.ref p) (upd H p (.lst (ys.map V.int)))
theorem setM_get {pins : List (Addr × Obj)} {σ : L2.St} {H : Hp} {s : Shared} {a : Addr} {ks : List Key} (I : Inv X pins σ H s) (ha : H a = some (SetM X.prog X.w a ks)) : SetG (mixKind X.prog X.w) s.heap a ks := (I.hok a _ ha).1
theorem cr_sortT (hc : X.calm = true) : CallR X (.builtin "sorted") (rSortT X) := by
  intro pins s σ H vs us Q I r h
  obtain ⟨a, xs, rfl, ha, q⟩ := h
  have R := setM_get I ha
  rw [Vals.ref1 r]
  refine sorted_texts R (I.ok.hd hc) fun s' p out c ys k g o hp hg hi pm hs hz => ?_
  have hlen : (ys.map V.str).length ≤ sizeLine := by rw [List.length_map]; exact hz
  have hn : H p = none := I.hok.fresh hp
  have J : Inv X pins σ (upd H p (.lst (ys.map V.str))) { s with heap := s'.heap, gens := s'.gens, drawn := s'.drawn, toks := s'.toks } :=
    I.call (ch := []) (Un.laid k hp hn) (I.hok.laid k hp ⟨hlen, out.toList, c, vals_of_strs hi, hg⟩) (by rw [g]; exact I.bare) (fun _ z => nomatch z)
  have e : s' = { s with heap := s'.heap, gens := s'.gens, drawn := s'.drawn, toks := s'.toks } := by
    cases s'
    cases s
    cases o
    rfl
  rw [e]
  exact ⟨.ref p, _, J, rfl, q ys p pm hs hn⟩
theorem cr_sortW (hc : X.calm = true) : CallR X (.builtin "sorted") (rSortW X) := by
  intro pins s σ H vs us Q I r h
  obtain ⟨a, xs, rfl, ha, q⟩ := h
  have R := setM_get I ha
  rw [Vals.ref1 r]
  refine sorted_wholes R (I.ok.hd hc) fun s' p out c ys k g o hp hg hi pm hs hz => ?_
  have hlen : (ys.map V.int).length ≤ sizeLine := by rw [List.length_map]; exact hz
  have hn : H p = none := I.hok.fresh hp
  have J : Inv X pins σ (upd H p (.lst (ys.map V.int))) { s with heap := s'.heap, gens := s'.gens, drawn := s'.drawn, toks := s'.toks } :=
    I.call (ch := []) (Un.laid k hp hn) (I.hok.laid k hp ⟨hlen, out.toList, c, vals_of_ints hi, hg⟩) (by rw [g]; exact I.bare) (fun _ z => nomatch z)
  have e : s' = { s with heap := s'.heap, gens := s'.gens, drawn := s'.drawn, toks := s'.toks } := by
    cases s'
    cases s
    cases o
    rfl
  rw [e]
  exact ⟨.ref p, _, J, rfl, q ys p pm hs hn⟩
end
end Wc
namespace Wc
section
variable {α : Type} [DecidableEq α] {lt : α → α → Bool}
def insU (lt : α → α → Bool) (x : α) : List α → List α
  | [] => [x]
  | y :: l => if x = y then y :: l else if lt x y = true then x :: y :: l else y :: insU lt x l
def srtU (lt : α → α → Bool) (xs : List α) : List α := xs.foldr (insU lt) []
theorem mem_insU {x z : α} : ∀ {l : List α}, z ∈ insU lt x l ↔ z = x ∨ z ∈ l
  | [] => by simp [insU]
  | y :: l => by
    unfold insU
    by_cases e : x = y
    · rw [if_pos e, e]; simp
    · rw [if_neg e]
      by_cases q : lt x y = true
      · rw [if_pos q]; simp
      · rw [if_neg q, List.mem_cons, mem_insU, List.mem_cons]
        exact ⟨fun h => h.elim (fun a => .inr (.inl a)) fun h => h.elim .inl fun a => .inr (.inr a), fun h => h.elim (fun a => .inr (.inl a)) fun h => h.elim .inl fun a => .inr (.inr a)⟩
theorem mem_srtU {z : α} : ∀ {xs : List α}, z ∈ srtU lt xs ↔ z ∈ xs
  | [] => Iff.rfl
  | x :: xs => by
    show z ∈ insU lt x (srtU lt xs) ↔ _
    rw [mem_insU, mem_srtU, List.mem_cons]
def Rise (lt : α → α → Bool) (l : List α) : Prop := l.Pairwise fun a b => lt a b = true
theorem asc_insU (tr : ∀ a b c, lt a b = true → lt b c = true → lt a c = true) (tot : ∀ a b, a ≠ b → lt a b = false → lt b a = true) {x : α} : ∀ {l : List α}, Rise lt l → Rise lt (insU lt x l)
  | [], _ => List.pairwise_singleton ..
  | y :: l, h => by
    have h' := List.pairwise_cons.mp h
    unfold insU
    by_cases e : x = y
    · rw [if_pos e]; exact h
    · rw [if_neg e]
      by_cases q : lt x y = true
      · rw [if_pos q]
        exact List.pairwise_cons.mpr ⟨fun z hz => (List.mem_cons.mp hz).elim (fun a => a ▸ q) fun a => tr _ _ _ q (h'.1 z a), h⟩
      · rw [if_neg q]
        refine List.pairwise_cons.mpr ⟨fun z hz => ?_, asc_insU tr tot h'.2⟩
        rcases mem_insU.mp hz with a | a
        · rw [a]; exact tot _ _ e (Bool.eq_false_iff.mpr q)
        · exact h'.1 z a
theorem asc_srtU (tr : ∀ a b c, lt a b = true → lt b c = true → lt a c = true) (tot : ∀ a b, a ≠ b → lt a b = false → lt b a = true) : ∀ {xs : List α}, Rise lt (srtU lt xs)
  | [] => List.Pairwise.nil
  | _ :: _ => asc_insU tr tot (asc_srtU tr tot)
theorem asc_eq (irr : ∀ a, lt a a = false) (tr : ∀ a b c, lt a b = true → lt b c = true → lt a c = true) : ∀ {l m : List α}, Rise lt l → Rise lt m → (∀ x, x ∈ l ↔ x ∈ m) → l = m
  | [], [], _, _, _ => rfl
  | [], y :: m, _, _, h => absurd ((h y).mpr List.mem_cons_self) List.not_mem_nil
  | x :: l, [], _, _, h => absurd ((h x).mp List.mem_cons_self) List.not_mem_nil
  | x :: l, y :: m, a, b, h => by
    obtain ⟨a1, a2⟩ := List.pairwise_cons.mp a
    obtain ⟨b1, b2⟩ := List.pairwise_cons.mp b
    have no : ∀ {u : α}, lt u u = true → False := fun {u} z => by rw [irr] at z; cases z
    have e : x = y := by
      rcases List.mem_cons.mp ((h x).mp List.mem_cons_self) with e | p
      · exact e
      · rcases List.mem_cons.mp ((h y).mpr List.mem_cons_self) with e | q
        · exact e.symm
        · exact (no (tr _ _ _ (b1 x p) (a1 y q))).elim
    subst e
    rw [asc_eq irr tr a2 b2 fun z => ⟨fun p => ?_, fun p => ?_⟩]
    · rcases List.mem_cons.mp ((h z).mp (List.mem_cons_of_mem _ p)) with e | q
      · exact (no (e ▸ a1 z p)).elim
      · exact q
    · rcases List.mem_cons.mp ((h z).mpr (List.mem_cons_of_mem _ p)) with e | q
      · exact (no (e ▸ b1 z p)).elim
      · exact q
theorem srtU_len : ∀ {xs : List α}, (srtU lt xs).length ≤ xs.length
  | [] => Nat.le_refl _
  | x :: xs => by
    show (insU lt x (srtU lt xs)).length ≤ _
    have h : ∀ l : List α, (insU lt x l).length ≤ l.length + 1 := by
      intro l
      induction l with
      | nil => exact Nat.le_refl _
      | cons y l ih =>
        unfold insU
        split
        · exact Nat.le_succ _
        · split
          · exact Nat.le_refl _
          · exact Nat.succ_le_succ ih
    exact Nat.le_trans (h _) (Nat.succ_le_succ srtU_len)
end
def ltW (a b : Int) : Bool := decide (a < b)
theorem ltW_irr (a : Int) : ltW a a = false := decide_eq_false (Int.lt_irrefl a)
theorem ltW_tr (a b c : Int) (h : ltW a b = true) (k : ltW b c = true) : ltW a c = true := decide_eq_true (Int.lt_trans (of_decide_eq_true h) (of_decide_eq_true k))
theorem ltW_tot (a b : Int) (h : a ≠ b) (k : ltW a b = false) : ltW b a = true := decide_eq_true (Int.lt_iff_le_and_ne.mpr ⟨Int.not_lt.mp (of_decide_eq_false k), Ne.symm h⟩)
def srtW (xs : List Int) : List Int := srtU ltW xs
theorem asc_of_le {ns : List Int} (h : ns.Pairwise (· ≤ ·)) (nd : ns.Nodup) : Rise ltW ns :=
  (List.Pairwise.and h nd).imp fun ⟨a, b⟩ => decide_eq_true (Int.lt_iff_le_and_ne.mpr ⟨a, b⟩)
end Wc
namespace Wc
open PySem L2
theorem allInl : ∀ {ls : List Key}, (∀ x ∈ ls, ∃ y, x = Sum.inl y) → ∃ xs : List Int, ls = xs.map Sum.inl
  | [], _ => ⟨[], rfl⟩
  | k :: ls, h => by
    obtain ⟨y, rfl⟩ := h k List.mem_cons_self
    obtain ⟨xs, rfl⟩ := allInl fun x hx => h x (List.mem_cons_of_mem _ hx)
    exact ⟨y :: xs, rfl⟩
theorem nodup_unmap {α β : Type} {f : α → β} : ∀ {l : List α}, (l.map f).Nodup → l.Nodup
  | [], _ => List.nodup_nil
  | x :: l, h => by
    obtain ⟨a, b⟩ := List.nodup_cons.mp h
    exact List.nodup_cons.mpr ⟨fun q => a (List.mem_map_of_mem q), nodup_unmap b⟩
section
variable {X : Cx} {T : Cl} {Wx : WX} {α : Type} {κ : Kind α V} {inj : W → α} {e : Expr} {f : M D} {p p2 pos pos2 : Pos} {σ : St} {env : Env'} {Z H : Hp} {Q : VK} {w : W}
theorem Now.past {a : Addr} {o : HO} (h : Now T σ env Z H w Q) (r : REnv T Z H σ env) (ha : H a = none) : Now T σ env Z (upd H a o) w Q :=
  fun Z' H' v b k x y => h Z' H' v (((Adv.newO r.ex ha).weak fun _ hy => .inl hy).trans b) k x y
theorem shWholes {Z : Hp} : ∀ {ys : List Int}, ShL T Z (ys.map D.int) (ys.map V.int)
  | [] => rfl
  | _ :: ys => ⟨_, _, rfl, rfl, shWholes⟩
def rSortG (X : Cx) : List V → Hp → VK → Prop := fun xs H Q => rSortT X xs H Q ∨ rSortW X xs H Q
theorem cr_sortG (hc : X.calm = true) : CallR X (.builtin "sorted") (rSortG X) := fun pins s σ H xs us Q I r h =>
  h.elim (cr_sortT hc pins s σ H xs us Q I r) (cr_sortW hc pins s σ H xs us Q I r)
end
end Wc
namespace Wc
open PySem L2
def cps (tx : List Nat) (f : Nat) : Nat → List Nat
  | 0 => []
  | m + 1 => cps tx f m ++ [(tx ++ cps tx f m).getD (tx.length + m - f) 0]
theorem cps_len (tx : List Nat) (f : Nat) : ∀ m, (cps tx f m).length = m
  | 0 => rfl
  | m + 1 => by rw [cps, List.length_append, cps_len tx f m]; rfl
theorem cps_take (tx : List Nat) (f : Nat) : ∀ (m k : Nat), k ≤ m → (cps tx f m).take k = cps tx f k
  | 0, k, h => by cases Nat.le_zero.mp h; rfl
  | m + 1, k, h => by
    rcases Nat.eq_or_lt_of_le h with q | q
    · subst q; exact List.take_of_length_le (by rw [cps_len]; omega)
    · rw [cps, List.take_append_of_le_length (by rw [cps_len]; omega), cps_take tx f m k (by omega)]
theorem getD_app_r {α : Type} (a b : List α) (i : Nat) (d : α) : (a ++ b).getD (a.length + i) d = b.getD i d := by
  simp [List.getD_eq_getElem?_getD, List.getElem?_append_right (Nat.le_add_right _ _)]
theorem getD_app_l {α : Type} {a b : List α} {i : Nat} {d : α} (h : i < a.length) : (a ++ b).getD i d = a.getD i d := by
  simp [List.getD_eq_getElem?_getD, List.getElem?_append_left h]
theorem cps_drop (tx : List Nat) {n f : Nat} (h1 : n ≤ tx.length) (h2 : f ≤ n) : ∀ m, cps (tx.drop (tx.length - n)) f m = cps tx f m
  | 0 => rfl
  | m + 1 => by
    rw [cps, cps, cps_drop tx h1 h2 m]
    congr 2
    have e : tx ++ cps tx f m = tx.take (tx.length - n) ++ (tx.drop (tx.length - n) ++ cps tx f m) := by rw [← List.append_assoc, List.take_append_drop]
    rw [e]
    have l : (tx.take (tx.length - n)).length = tx.length - n := by rw [List.length_take]; omega
    have := getD_app_r (tx.take (tx.length - n)) (tx.drop (tx.length - n) ++ cps tx f m) (n + m - f) 0
    rw [l, show tx.length - n + (n + m - f) = tx.length + m - f by omega] at this
    rw [this, List.length_drop]
    congr 1; omega
def wrT (tx : List Nat) : Tkn → List Nat
  | .text s => s
  | .copy f m => cps tx f m
  | _ => []
def kpt (wd n : Nat) : Tkn → Nat
  | .flush => 0
  | t => min wd (n + t.sz)
def okT (n : Nat) : Tkn → Prop
  | .copy f _ => f ≤ n
  | .text _ => True
  | .flush => True
  | _ => False
def wrB (tx : List Nat) : List Tkn → List Nat
  | [] => []
  | t :: r => wrT tx t ++ wrB (tx ++ wrT tx t) r
def kpB (wd n : Nat) : List Tkn → Nat
  | [] => n
  | t :: r => kpB wd (kpt wd n t) r
def sndB (wd n : Nat) : List Tkn → Prop
  | [] => True
  | t :: r => okT n t ∧ sndB wd (kpt wd n t) r
def sndBs (wd n : Nat) : List (List Tkn) → Prop
  | [] => True
  | b :: r => sndB wd n b ∧ sndBs wd (kpB wd n b) r
theorem wrT_len {n : Nat} {t : Tkn} (h : okT n t) (tx : List Nat) : (wrT tx t).length = t.sz := by
  cases t <;> simp [okT] at h <;> simp [wrT, Tkn.sz, cps_len]
theorem wrB_len {wd : Nat} : ∀ {b : List Tkn} {n : Nat}, sndB wd n b → ∀ tx : List Nat, (wrB tx b).length = tot b
  | [], _, _, _ => rfl
  | t :: r, n, h, tx => by rw [wrB, List.length_append, wrT_len h.1, wrB_len h.2, tot_cons]
theorem okT.mono {n n' : Nat} (h : n ≤ n') {t : Tkn} (k : okT n t) : okT n' t := by
  cases t <;> simp [okT] at k ⊢
  omega
theorem kpt_mono {n n' : Nat} (wd : Nat) (h : n ≤ n') (t : Tkn) : kpt wd n t ≤ kpt wd n' t := by
  cases t <;> simp only [kpt] <;> omega
theorem kpt_le {wd n : Nat} (h : n ≤ wd) (t : Tkn) : kpt wd n t ≤ wd := by
  cases t <;> simp only [kpt] <;> omega
theorem kpt_len {wd n p : Nat} (h : n ≤ p) (t : Tkn) : kpt wd n t ≤ p + t.sz := by
  cases t <;> simp only [kpt, Tkn.sz] <;> omega
theorem kpB_mono (wd : Nat) : ∀ (b : List Tkn) {n n' : Nat}, n ≤ n' → kpB wd n b ≤ kpB wd n' b
  | [], _, _, h => h
  | t :: r, _, _, h => kpB_mono wd r (kpt_mono wd h t)
theorem kpB_le {wd : Nat} : ∀ (b : List Tkn) {n : Nat}, n ≤ wd → kpB wd n b ≤ wd
  | [], _, h => h
  | t :: r, _, h => kpB_le r (kpt_le h t)
theorem kpB_len {wd : Nat} : ∀ (b : List Tkn) {n p : Nat}, n ≤ p → kpB wd n b ≤ p + tot b
  | [], _, _, h => by simpa [kpB, tot] using h
  | t :: r, n, p, h => by
    rw [kpB, tot_cons, ← Nat.add_assoc]
    exact kpB_len r (kpt_len h t)
theorem kpB_lost {wd : Nat} : ∀ (b : List Tkn) {n : Nat}, kpB wd n b ≤ n ∨ kpB wd n b ≤ min wd (n + tot b)
  | [], n => .inl (Nat.le_refl _)
  | t :: r, n => by
    rw [kpB, tot_cons]
    have h := kpB_lost r (wd := wd) (n := kpt wd n t)
    have k : kpt wd n t ≤ n ∨ kpt wd n t ≤ min wd (n + t.sz) := by cases t <;> simp only [kpt, Tkn.sz] <;> omega
    omega
theorem sndB.mono {wd : Nat} : ∀ {b : List Tkn} {n n' : Nat}, n ≤ n' → sndB wd n b → sndB wd n' b
  | [], _, _, _, _ => trivial
  | t :: r, _, _, h, ⟨a, b⟩ => ⟨a.mono h, sndB.mono (kpt_mono wd h t) b⟩
def tback (f : Option Nat) (q : Nat) : Option Nat := f.map fun f => q - f
def Tkn.far : Tkn → Option Nat
  | .copy f _ => some f
  | _ => none
def tks (a p : Nat) (t : Tkn) (k : Nat) : List (Nat × Option Nat) := (List.range k).map fun j => (a, tback t.far (p + j))
def bks (a p : Nat) : List Tkn → List (Nat × Option Nat)
  | [] => []
  | t :: r => tks a p t t.sz ++ bks a (p + t.sz) r
def srcs (a p : Nat) : List (List Tkn) → List (Nat × Option Nat)
  | [] => []
  | b :: r => bks a p b ++ srcs (a + 1) (p + tot b) r
theorem bks_len (a : Nat) : ∀ (b : List Tkn) (p : Nat), (bks a p b).length = tot b
  | [], _ => rfl
  | t :: r, p => by rw [bks, List.length_append, tks, List.length_map, List.length_range, bks_len a r, tot_cons]
/-- the law's own marks and texts, sign by sign -/
def lmark (gone : List Nat) (M : List Bool) (x : Nat × Option Nat) : Bool := decide (x.1 ∈ gone) || match x.2 with
  | none => false
  | some b => M.getD b false
def lstep (gone wh : List Nat) (s : List Bool × List (List Nat)) (x : Nat × Option Nat) : List Bool × List (List Nat) :=
  (s.1 ++ [lmark gone s.1 x], s.2.set x.1 (s.2.getD x.1 [] ++ [if lmark gone s.1 x = true then 63 else wh.getD s.1.length 0]))
structure Rel (M : List Bool) (A S : List Nat) : Prop where
  l1 : M.length = A.length
  l2 : S.length = A.length
  h : ∀ q, q < A.length → S.getD q 0 = if M.getD q false = true then 63 else A.getD q 0
theorem Rel.snoc {M : List Bool} {A S : List Nat} (r : Rel M A S) {m : Bool} {a s : Nat} (e : s = if m = true then 63 else a) : Rel (M ++ [m]) (A ++ [a]) (S ++ [s]) := by
  refine ⟨by simp [r.l1], by simp [r.l2], fun q hq => ?_⟩
  rw [List.length_append, List.length_singleton] at hq
  by_cases z : q < A.length
  · rw [getD_app_l (by rw [r.l2]; exact z), getD_app_l (by rw [r.l1]; exact z), getD_app_l z]
    exact r.h q z
  · obtain rfl : q = A.length := by omega
    have e1 := getD_app_r S [s] 0 0
    have e2 := getD_app_r M [m] 0 false
    have e3 := getD_app_r A [a] 0 0
    rw [r.l2, Nat.add_zero] at e1
    rw [r.l1, Nat.add_zero] at e2
    rw [Nat.add_zero] at e3
    rw [e1, e2, e3]
    exact e
def segT (gone : List Nat) (a : Nat) (S : List Nat) (t : Tkn) : List Nat := if a ∈ gone then List.replicate t.sz 63 else wrT S t
def segB (gone : List Nat) (a : Nat) (S : List Nat) (b : List Tkn) : List Nat := if a ∈ gone then List.replicate (tot b) 63 else wrB S b
def spo (gone : List Nat) (a : Nat) (S : List Nat) : List (List Tkn) → List (List Nat)
  | [] => []
  | b :: r => segB gone a S b :: spo gone (a + 1) (S ++ segB gone a S b) r
def whl (A : List Nat) : List (List Tkn) → List (List Nat)
  | [] => []
  | b :: r => wrB A b :: whl (A ++ wrB A b) r
theorem take_snoc {α : Type} {l : List α} {k : Nat} {x : α} (h : l[k]? = some x) : l.take (k + 1) = l.take k ++ [x] := by
  rw [List.take_add_one, h]; rfl
theorem tok_l {gone Wh A S : List Nat} {M : List Bool} {fd : List (List Nat)} {a n : Nat} {t : Tkn} (r : Rel M A S) (ha : a < fd.length) (hk : okT n t) (hn : n ≤ A.length) (h1 : ∀ f m, t = .copy f m → 1 ≤ f) (hp : A ++ wrT A t <+: Wh) :
    ∀ k, k ≤ t.sz → ∃ M', (tks a A.length t k).foldl (lstep gone Wh) (M, fd) = (M', fd.set a (fd.getD a [] ++ (segT gone a S t).take k)) ∧ Rel M' (A ++ (wrT A t).take k) (S ++ (segT gone a S t).take k)
  | 0, _ => ⟨M, by
      rw [List.take_zero, List.append_nil]
      show (M, fd) = _
      rw [List.getD_eq_getElem?_getD, List.getElem?_eq_getElem ha, Option.getD_some, List.set_getElem_self], by simpa using r⟩
  | k + 1, hk1 => by
    obtain ⟨M', e1, r1⟩ := tok_l (gone := gone) (a := a) (fd := fd) r ha hk hn h1 hp k (by omega)
    have lw := wrT_len hk A
    have ls : (segT gone a S t).length = t.sz := by unfold segT; split; · simp
                                                    · exact wrT_len hk S
    obtain ⟨w, hw⟩ : ∃ w, (wrT A t)[k]? = some w := ⟨_, List.getElem?_eq_getElem (by omega)⟩
    obtain ⟨s, hs⟩ : ∃ s, (segT gone a S t)[k]? = some s := ⟨_, List.getElem?_eq_getElem (by omega)⟩
    have lA : (A ++ (wrT A t).take k).length = A.length + k := by rw [List.length_append, List.length_take]; omega
    have lM : M'.length = A.length + k := by rw [r1.l1, lA]
    have hwh : Wh.getD (A.length + k) 0 = w := by
      obtain ⟨z, rfl⟩ := hp
      rw [List.append_assoc, getD_app_r, getD_app_l (by omega), List.getD_eq_getElem?_getD, hw]
      rfl
    have hm : s = if lmark gone M' (a, tback t.far (A.length + k)) = true then 63 else w := by
      unfold lmark segT at *
      by_cases q : a ∈ gone
      · rw [if_pos q] at hs
        rw [decide_eq_true q, Bool.true_or, if_pos rfl]
        rw [List.getElem?_replicate] at hs
        split at hs
        · exact (Option.some.inj hs).symm
        · cases hs
      · rw [if_neg q] at hs r1
        rw [decide_eq_false q, Bool.false_or]
        cases t with
        | text x =>
          have : some s = some w := by rw [← hs, ← hw]; rfl
          cases this
          simp [Tkn.far, tback]
        | copy f m =>
          have h1' := h1 f m rfl
          have hf : f ≤ n := hk
          have hkm : k < m := hk1
          have g : ∀ B : List Nat, (cps B f m)[k]? = some ((B ++ cps B f k).getD (B.length + k - f) 0) := fun B => by
            have e := cps_take B f m (k + 1) (by omega)
            have e2 := congrArg (fun l : List Nat => l[k]?) e
            simp only [List.getElem?_take_of_lt (Nat.lt_succ_self k)] at e2
            rw [e2, cps, List.getElem?_append_right (by rw [cps_len]; omega), cps_len, Nat.sub_self]
            rfl
          have e1 : s = (S ++ cps S f k).getD (S.length + k - f) 0 := by have := g S; rw [show (cps S f m)[k]? = some s from hs] at this; exact Option.some.inj this
          have e2 : w = (A ++ cps A f k).getD (A.length + k - f) 0 := by have := g A; rw [show (cps A f m)[k]? = some w from hw] at this; exact Option.some.inj this
          have r2 := r1.h (A.length + k - f) (by rw [lA]; omega)
          rw [show (wrT S (.copy f m)).take k = cps S f k from cps_take S f m k (by omega), show (wrT A (.copy f m)).take k = cps A f k from cps_take A f m k (by omega)] at r2
          rw [e1, e2, r.l2, r2]
          rfl
        | any x => exact absurd hk (by simp [okT])
        | say f m => exact absurd hk (by simp [okT])
        | flush => simp [Tkn.sz] at hk1
    have et : tks a A.length t (k + 1) = tks a A.length t k ++ [(a, tback t.far (A.length + k))] := by rw [tks, List.range_succ, List.map_append]; rfl
    refine ⟨M' ++ [lmark gone M' (a, tback t.far (A.length + k))], ?_, ?_⟩
    · rw [et, List.foldl_append, e1]
      show lstep gone Wh _ _ = _
      unfold lstep
      simp only
      rw [lM, hwh, ← hm, List.set_set, take_snoc hs]
      congr 2
      rw [List.getD_eq_getElem?_getD, List.getElem?_set_self ha, Option.getD_some, List.append_assoc]
    · rw [take_snoc hs, take_snoc hw, ← List.append_assoc, ← List.append_assoc]
      exact r1.snoc hm
theorem segB_cons {gone : List Nat} {a : Nat} (S : List Nat) (t : Tkn) (r : List Tkn) : segB gone a S (t :: r) = segT gone a S t ++ segB gone a (S ++ segT gone a S t) r := by
  unfold segB segT
  by_cases q : a ∈ gone
  · rw [if_pos q, if_pos q, if_pos q, tot_cons, List.replicate_append_replicate]
  · rw [if_neg q, if_neg q, if_neg q, wrB]
theorem blk_l {gone Wh : List Nat} {wd a : Nat} {sg : List Nat} : ∀ {b : List Tkn} {A S : List Nat} {M : List Bool} {fd : List (List Nat)} {n : Nat}, Rel M A S → a < fd.length → sndB wd n b → (∀ t ∈ b, t.ok sg) → n ≤ A.length → A ++ wrB A b <+: Wh →
    ∃ M', (bks a A.length b).foldl (lstep gone Wh) (M, fd) = (M', fd.set a (fd.getD a [] ++ segB gone a S b)) ∧ Rel M' (A ++ wrB A b) (S ++ segB gone a S b)
  | [], A, S, M, fd, n, r, ha, _, _, _, _ => ⟨M, by
      have : segB gone a S [] = [] := by unfold segB; split <;> rfl
      rw [this, List.append_nil]
      show (M, fd) = _
      rw [List.getD_eq_getElem?_getD, List.getElem?_eq_getElem ha, Option.getD_some, List.set_getElem_self], by
      have : segB gone a S [] = [] := by unfold segB; split <;> rfl
      rw [this, wrB, List.append_nil, List.append_nil]; exact r⟩
  | t :: b, A, S, M, fd, n, r, ha, hs, hok, hn, hp => by
    rw [wrB, ← List.append_assoc] at hp
    have lw := wrT_len hs.1 A
    have ls : (segT gone a S t).length = t.sz := by
      unfold segT
      split
      · simp
      · exact wrT_len hs.1 S
    obtain ⟨M1, e1, r1⟩ := tok_l (gone := gone) (Wh := Wh) (a := a) (fd := fd) r ha hs.1 hn (fun f m e => by have := hok t List.mem_cons_self; rw [e] at this; exact this.1) ((List.prefix_append _ _).trans hp) t.sz (Nat.le_refl _)
    rw [List.take_of_length_le (by omega)] at e1 r1
    rw [List.take_of_length_le (by omega)] at r1
    obtain ⟨M2, e2, r2⟩ := blk_l (gone := gone) (Wh := Wh) (a := a) (b := b) (fd := fd.set a (fd.getD a [] ++ segT gone a S t)) r1 (by rw [List.length_set]; exact ha) hs.2 (fun u q => hok u (List.mem_cons_of_mem _ q)) (by rw [List.length_append, lw]; exact kpt_len hn t) hp
    rw [List.length_append, lw] at e2
    refine ⟨M2, ?_, ?_⟩
    · rw [bks, List.foldl_append, e1, e2, List.set_set, segB_cons, List.getD_eq_getElem?_getD, List.getElem?_set_self ha, Option.getD_some, List.append_assoc]
    · rw [wrB, segB_cons, ← List.append_assoc, ← List.append_assoc]
      exact r2
theorem spo_len (gone : List Nat) : ∀ (bs : List (List Tkn)) (a : Nat) (S : List Nat), (spo gone a S bs).length = bs.length
  | [], _, _ => rfl
  | b :: r, a, S => by rw [spo, List.length_cons, List.length_cons, spo_len gone r]
theorem spo_l {gone Wh : List Nat} {wd : Nat} {sg : List Nat} : ∀ {bs : List (List Tkn)} {A S : List Nat} {M : List Bool} {dn : List (List Nat)} {n : Nat}, Rel M A S → sndBs wd n bs → (∀ b ∈ bs, ∀ t ∈ b, t.ok sg) → n ≤ A.length → A ++ (whl A bs).flatten <+: Wh →
    ∃ M', (srcs dn.length A.length bs).foldl (lstep gone Wh) (M, dn ++ List.replicate bs.length []) = (M', dn ++ spo gone dn.length S bs)
  | [], A, S, M, dn, n, r, _, _, _, _ => ⟨M, rfl⟩
  | b :: bs, A, S, M, dn, n, r, hs, hok, hn, hp => by
    rw [whl, List.flatten_cons, ← List.append_assoc] at hp
    have lw := wrB_len hs.1 A
    have hd : dn.length < (dn ++ List.replicate (b :: bs).length ([] : List Nat)).length := by simp
    obtain ⟨M1, e1, r1⟩ := blk_l (gone := gone) (Wh := Wh) (a := dn.length) (fd := dn ++ List.replicate (b :: bs).length []) r hd hs.1 (hok b List.mem_cons_self) hn ((List.prefix_append _ _).trans hp)
    have e0 : (dn ++ List.replicate (b :: bs).length ([] : List Nat)).getD dn.length [] = [] := by
      have := getD_app_r dn (List.replicate (b :: bs).length ([] : List Nat)) 0 []
      rw [Nat.add_zero] at this
      rw [this]; rfl
    have e3 : (dn ++ List.replicate (b :: bs).length ([] : List Nat)).set dn.length (segB gone dn.length S b) = (dn ++ [segB gone dn.length S b]) ++ List.replicate bs.length [] := by
      rw [List.set_append_right _ _ (Nat.le_refl _), Nat.sub_self, List.length_cons, List.replicate_succ, List.set_cons_zero, List.append_assoc]
      rfl
    rw [e0, List.nil_append, e3] at e1
    obtain ⟨M2, e2⟩ := spo_l (gone := gone) (Wh := Wh) (dn := dn ++ [segB gone dn.length S b]) r1 hs.2 (fun c q => hok c (List.mem_cons_of_mem _ q)) (by rw [List.length_append, lw]; exact kpB_len b hn) hp
    rw [List.length_append, List.length_singleton, List.length_append, lw] at e2
    refine ⟨M2, ?_⟩
    rw [srcs, List.foldl_append, e1, e2, spo, List.append_assoc]
    rfl
/-- the law's own reading -/
theorem lspoilt {gone : List Nat} {wd : Nat} {sg : List Nat} {bs : List (List Tkn)} (hs : sndBs wd 0 bs) (hok : ∀ b ∈ bs, ∀ t ∈ b, t.ok sg) :
    ∃ M', (srcs 0 0 bs).foldl (lstep gone (whl [] bs).flatten) ([], List.replicate bs.length []) = (M', spo gone 0 [] bs) :=
  spo_l (dn := []) (A := []) (S := []) (M := []) ⟨rfl, rfl, fun q h => absurd h (Nat.not_lt_zero q)⟩ hs hok (Nat.le_refl 0) (by rw [List.nil_append]; exact List.prefix_refl _)
end Wc
namespace Wc
open PySem L2
def tots (bs : List (List Tkn)) : Nat := (bs.map tot).sum
theorem tots_cons (b : List Tkn) (bs : List (List Tkn)) : tots (b :: bs) = tot b + tots bs := by simp [tots]
def bD (bs : List (List Tkn)) : List D := bs.map fun b => .lst (b.map Tkn.d)
def kpBs (wd n : Nat) : List (List Tkn) → Nat
  | [] => n
  | b :: r => kpBs wd (kpB wd n b) r
theorem kpB_app (wd : Nat) : ∀ (a : List Tkn) (n : Nat) (b : List Tkn), kpB wd n (a ++ b) = kpB wd (kpB wd n a) b
  | [], _, _ => rfl
  | t :: a, n, b => by rw [List.cons_append, kpB, kpB, kpB_app wd a]
theorem sndB_app (wd : Nat) : ∀ (a : List Tkn) (n : Nat) (b : List Tkn), sndB wd n (a ++ b) ↔ sndB wd n a ∧ sndB wd (kpB wd n a) b
  | [], _, _ => by simp [sndB, kpB]
  | t :: a, n, b => by rw [List.cons_append, sndB, sndB, kpB, sndB_app wd a, and_assoc]
theorem kpBs_app (wd : Nat) : ∀ (a : List (List Tkn)) (n : Nat) (b : List (List Tkn)), kpBs wd n (a ++ b) = kpBs wd (kpBs wd n a) b
  | [], _, _ => rfl
  | t :: a, n, b => by rw [List.cons_append, kpBs, kpBs, kpBs_app wd a]
theorem sndBs_app (wd : Nat) : ∀ (a : List (List Tkn)) (n : Nat) (b : List (List Tkn)), sndBs wd n (a ++ b) ↔ sndBs wd n a ∧ sndBs wd (kpBs wd n a) b
  | [], _, _ => by simp [sndBs, kpBs]
  | t :: a, n, b => by rw [List.cons_append, sndBs, sndBs, kpBs, sndBs_app wd a, and_assoc]
theorem kpBs_le {wd : Nat} : ∀ (bs : List (List Tkn)) {n : Nat}, n ≤ wd → kpBs wd n bs ≤ wd
  | [], _, h => h
  | b :: r, _, h => kpBs_le r (kpB_le b h)
theorem kpBs_len {wd : Nat} : ∀ (bs : List (List Tkn)) {n p : Nat}, n ≤ p → kpBs wd n bs ≤ p + tots bs
  | [], _, _, h => by simpa [kpBs, tots] using h
  | b :: r, n, p, h => by
    rw [kpBs, tots_cons, ← Nat.add_assoc]
    exact kpBs_len r (kpB_len b h)
theorem tots_app (a b : List (List Tkn)) : tots (a ++ b) = tots a + tots b := by simp [tots]
theorem bks_app (a : Nat) : ∀ (b c : List Tkn) (p : Nat), bks a p (b ++ c) = bks a p b ++ bks a (p + tot b) c
  | [], c, p => by simp [bks, tot]
  | t :: b, c, p => by rw [List.cons_append, bks, bks, bks_app a b c, tot_cons, List.append_assoc, Nat.add_assoc]
theorem srcs_app : ∀ (b c : List (List Tkn)) (a p : Nat), srcs a p (b ++ c) = srcs a p b ++ srcs (a + b.length) (p + tots b) c
  | [], c, a, p => by simp [srcs, tots]
  | t :: b, c, a, p => by
    rw [List.cons_append, srcs, srcs, srcs_app b c, tots_cons, List.append_assoc, Nat.add_assoc, List.length_cons]
    congr 3 <;> omega
theorem srcs_len : ∀ (bs : List (List Tkn)) (a p : Nat), (srcs a p bs).length = tots bs
  | [], _, _ => rfl
  | b :: r, a, p => by rw [srcs, List.length_append, bks_len, srcs_len r, tots_cons]
theorem tks_at {a p : Nat} {t : Tkn} {k q : Nat} {x : Nat × Option Nat} (h : (tks a p t k)[q]? = some x) (hf : ∀ f, t.far = some f → 1 ≤ f ∧ f ≤ p) : x.1 = a ∧ ∀ b, x.2 = some b → b < p + q := by
  unfold tks at h
  rw [List.getElem?_map] at h
  obtain ⟨j, hj, rfl⟩ := Option.map_eq_some_iff.mp h
  obtain ⟨h1, h2⟩ := List.getElem?_eq_some_iff.mp hj
  rw [List.getElem_range] at h2
  subst h2
  refine ⟨rfl, fun b hb => ?_⟩
  unfold tback at hb
  obtain ⟨f, e1, e2⟩ := Option.map_eq_some_iff.mp hb
  have := hf f e1
  omega
theorem bks_at {wd a : Nat} {sg : List Nat} : ∀ {b : List Tkn} {p n q : Nat} {x : Nat × Option Nat}, sndB wd n b → n ≤ p → (∀ t ∈ b, t.ok sg) → (bks a p b)[q]? = some x → x.1 = a ∧ ∀ b, x.2 = some b → b < p + q
  | [], p, n, q, x, _, _, _, h => by simp [bks] at h
  | t :: b, p, n, q, x, hs, hn, hok, h => by
    rw [bks] at h
    by_cases z : q < (tks a p t t.sz).length
    · rw [List.getElem?_append_left z] at h
      refine tks_at h fun f hf => ?_
      have h1 := hok t List.mem_cons_self
      have h2 := hs.1
      cases t <;> simp only [Tkn.far] at hf <;> try (cases hf; done)
      cases hf
      exact ⟨h1.1, Nat.le_trans h2 hn⟩
    · rw [List.getElem?_append_right (by omega)] at h
      have l : (tks a p t t.sz).length = t.sz := by rw [tks, List.length_map, List.length_range]
      rw [l] at h z
      obtain ⟨h1, h2⟩ := bks_at hs.2 (kpt_len hn t) (fun u q => hok u (List.mem_cons_of_mem _ q)) h
      exact ⟨h1, fun b hb => by have := h2 b hb; omega⟩
theorem srcs_at {wd : Nat} {sg : List Nat} : ∀ {bs : List (List Tkn)} {a p n q : Nat} {x : Nat × Option Nat}, sndBs wd n bs → n ≤ p → (∀ b ∈ bs, ∀ t ∈ b, t.ok sg) → (srcs a p bs)[q]? = some x → x.1 < a + bs.length ∧ ∀ b, x.2 = some b → b < p + q
  | [], a, p, n, q, x, _, _, _, h => by simp [srcs] at h
  | b :: bs, a, p, n, q, x, hs, hn, hok, h => by
    rw [srcs] at h
    by_cases z : q < (bks a p b).length
    · rw [List.getElem?_append_left z] at h
      obtain ⟨h1, h2⟩ := bks_at hs.1 hn (hok b List.mem_cons_self) h
      exact ⟨by rw [List.length_cons]; omega, h2⟩
    · rw [List.getElem?_append_right (by omega)] at h
      rw [bks_len] at h z
      obtain ⟨h1, h2⟩ := srcs_at hs.2 (kpB_len b hn) (fun u q => hok u (List.mem_cons_of_mem _ q)) h
      exact ⟨by rw [List.length_cons]; omega, fun b hb => by have := h2 b hb; omega⟩
theorem sndB_at {wd : Nat} : ∀ {b : List Tkn} {n i : Nat} {t : Tkn}, sndB wd n b → b[i]? = some t → okT (kpB wd n (b.take i)) t
  | [], _, _, _, _, h => by simp at h
  | u :: b, n, 0, t, hs, h => by cases h; exact hs.1
  | u :: b, n, i + 1, t, hs, h => by rw [List.take_succ_cons, kpB]; exact sndB_at hs.2 (by simpa using h)
theorem sndBs_at {wd : Nat} : ∀ {bs : List (List Tkn)} {n k : Nat} {b : List Tkn}, sndBs wd n bs → bs[k]? = some b → sndB wd (kpBs wd n (bs.take k)) b
  | [], _, _, _, _, h => by simp at h
  | u :: bs, n, 0, b, hs, h => by cases h; exact hs.1
  | u :: bs, n, k + 1, b, hs, h => by rw [List.take_succ_cons, kpBs]; exact sndBs_at hs.2 (by simpa using h)
theorem far_le {wd : Nat} {bs : List (List Tkn)} {k i f : Nat} {b : List Tkn} {t : Tkn} (hs : sndBs wd 0 bs) (hb : bs[k]? = some b) (ht : b[i]? = some t) (hf : t.far = some f) : f ≤ tots (bs.take k) + tot (b.take i) := by
  have h1 := sndB_at (sndBs_at hs hb) ht
  have h2 := kpBs_len (wd := wd) (bs.take k) (Nat.le_refl 0)
  have h3 := kpB_len (wd := wd) (b.take i) h2
  rw [Nat.zero_add] at h3
  cases t <;> simp only [Tkn.far] at hf <;> try (cases hf; done)
  cases hf
  exact Nat.le_trans h1 h3
theorem fold_len (gone wh : List Nat) : ∀ (xs : List (Nat × Option Nat)) (s : List Bool × List (List Nat)), (xs.foldl (lstep gone wh) s).1.length = s.1.length + xs.length ∧ (xs.foldl (lstep gone wh) s).2.length = s.2.length
  | [], s => by simp
  | x :: xs, s => by
    obtain ⟨h1, h2⟩ := fold_len gone wh xs (lstep gone wh s x)
    rw [List.foldl_cons, h1, h2]
    simp [lstep]; omega
theorem tots_take_le (bs : List (List Tkn)) (k : Nat) : tots (bs.take k) ≤ tots bs := by
  conv => rhs; rw [← List.take_append_drop k bs, tots_app]
  omega
end Wc
namespace Wc
open PySem L2
instance (n : Nat) (t : Tkn) : Decidable (okT n t) := by
  cases t <;> unfold okT <;> infer_instance
abbrev Rd := Sum (Nat × Nat) (List Nat × Nat)
end Wc
namespace Wc
open PySem L2
section
variable {X : Cx} {T : Cl} {Wx : WX} {α : Type} {κ : Kind α V} {inj : W → α} {pos apos : Pos} {e : Expr} {f : M D}
def dic0M (inj : W → α) : M α := ofO (some (inj (.sh (.dic [] []))))
theorem w_dic0 {e : Env'} {Q : α → Env' → Prop} : Wp (dic0M inj e) Q ↔ Q (inj (.sh (.dic [] []))) e := w_ok
end
end Wc
namespace Wc
open PySem L2
def ty (d : D) : Bool := (tyN d).isSome
def chB (sg : List Nat) : D → Bool
  | .str s => (s.all fun c => decide (c ∈ sg)) && (!(s == [])) && risesB s
  | _ => false
def strOf : D → List Nat
  | .str s => s
  | _ => []
theorem ix_head {a : D} {r : List D} : ixD (.tup (a :: r)) (.int 0) = some (.sh a) := by
  have e : ixN (r.length + 1) (0 : Int) = some 0 := by
    unfold ixN
    rw [if_pos (by omega)]
    simp
  show ((ixN (r.length + 1) (0 : Int)).bind fun n => (a :: r)[n]?).map (fun c => W.sh c) = _
  rw [e]; rfl
instance s_ix0 {a : D} {r : List D} {Q : W → Prop} : WStep (∃ w, ixD (.tup (a :: r)) (.int 0) = some w ∧ Q w) (Q (.sh a)) := ⟨fun q => ⟨_, ix_head, q⟩⟩
theorem in_t2 {w a b : List Nat} : inW (.str w) (.tup [.str a, .str b]) = some (.sh (.bl (w == a || w == b))) := by
  have e : inD (.str w) (.tup [.str a, .str b]) = some (inB (.str w) [.str a, .str b]) := by
    cases w with
    | nil => rfl
    | cons c w => cases w <;> rfl
  unfold inW
  rw [e]
  show some (W.sh (.bl (a == w || (b == w || false)))) = _
  rw [Bool.or_false, show (a == w) = (w == a) from BEq.comm, show (b == w) = (w == b) from BEq.comm]
theorem in_t3 {w a b c : List Nat} : inW (.str w) (.tup [.str a, .str b, .str c]) = some (.sh (.bl (w == a || (w == b || w == c)))) := by
  have e : inD (.str w) (.tup [.str a, .str b, .str c]) = some (inB (.str w) [.str a, .str b, .str c]) := by
    cases w with
    | nil => rfl
    | cons c w => cases w <;> rfl
  unfold inW
  rw [e]
  show some (W.sh (.bl (a == w || (b == w || (c == w || false))))) = _
  rw [Bool.or_false, show (a == w) = (w == a) from BEq.comm, show (b == w) = (w == b) from BEq.comm, show (c == w) = (w == c) from BEq.comm]
instance s_in2 {w a b : List Nat} {Q : W → Prop} : WStep (∃ x, inW (.str w) (.tup [.str a, .str b]) = some x ∧ Q x) (Q (.sh (.bl (w == a || w == b)))) := ⟨fun q => ⟨_, in_t2, q⟩⟩
instance s_in3 {w a b c : List Nat} {Q : W → Prop} : WStep (∃ x, inW (.str w) (.tup [.str a, .str b, .str c]) = some x ∧ Q x) (Q (.sh (.bl (w == a || (w == b || w == c))))) := ⟨fun q => ⟨_, in_t3, q⟩⟩
theorem eq_t1 {w a : List Nat} {r : List D} : eqW (.tup (.str w :: r)) (.tup [.str a]) = some (.sh (.bl (w == a && r.isEmpty))) := by
  cases r with
  | nil => rfl
  | cons x r => rfl
instance s_eqt1 {w a : List Nat} {r : List D} {Q : W → Prop} : WStep (∃ x, eqW (.tup (.str w :: r)) (.tup [.str a]) = some x ∧ Q x) (Q (.sh (.bl (w == a && r.isEmpty)))) := ⟨fun q => ⟨_, eq_t1, q⟩⟩
end Wc
namespace Wc
open PySem L2
mutual
inductive Sm : Nat → Nat → D → Prop
  | non {k n : Nat} : Sm k n .non
  | bl {k n : Nat} {b : Bool} : Sm k n (.bl b)
  | num {k n : Nat} {i : Int} : (PyData.int i).showable = true → (PyData.int i).leavesShort 45 = true → (PyData.int i).weight ≤ n → Sm k n (.int i)
  | str {k n : Nat} {s : List Nat} : (∀ c ∈ s, c < 1000) → s.length ≤ n → Sm k n (.str s)
  | dic {k n : Nat} : Sm (k + 1) n (.dic [] [])
  | tup {k n : Nat} {xs : List D} : SmL k n xs → Sm (k + 1) n (.tup xs)
  | lst {k n : Nat} {xs : List D} : SmL k n xs → Sm (k + 1) n (.lst xs)
inductive SmL : Nat → Nat → List D → Prop
  | nil {k n : Nat} : SmL k n []
  | cons {k n a b : Nat} {x : D} {xs : List D} : Sm k a x → SmL k b xs → a + 1 + b ≤ n → SmL k n (x :: xs)
end
theorem SmL.all {k a : Nat} : ∀ {xs : List D}, (∀ x ∈ xs, Sm k a x) → SmL k (xs.length * (a + 1)) xs
  | [], _ => .nil
  | x :: xs, h => .cons (h x List.mem_cons_self) (SmL.all fun y hy => h y (List.mem_cons_of_mem _ hy)) (by rw [List.length_cons, Nat.succ_mul]; omega)
mutual
theorem Sm.more : ∀ {k n m : Nat} {d : D}, Sm k n d → n ≤ m → Sm k m d
  | _, _, _, _, .non, _ => .non
  | _, _, _, _, .bl, _ => .bl
  | _, _, _, _, .num a b c, h => .num a b (Nat.le_trans c h)
  | _, _, _, _, .str a b, h => .str a (Nat.le_trans b h)
  | _, _, _, _, .dic, _ => .dic
  | _, _, _, _, .tup a, h => .tup (SmL.more a h)
  | _, _, _, _, .lst a, h => .lst (SmL.more a h)
theorem SmL.more : ∀ {k n m : Nat} {ds : List D}, SmL k n ds → n ≤ m → SmL k m ds
  | _, _, _, _, .nil, _ => .nil
  | _, _, _, _, .cons a b c, h => .cons a b (Nat.le_trans c h)
end
theorem Sm.big {k n : Nat} {i : Int} (h : i.natAbs < 10 ^ 40) (hn : 140 ≤ n) : Sm k n (.int i) := by
  have l : i.natAbs.log2 < 133 := by
    by_cases e : i.natAbs = 0
    · rw [e]; decide
    · exact (Nat.log2_lt e).mpr (Nat.lt_trans h (by decide))
  refine .num ?_ ?_ ?_
  · show decide (i.natAbs.log2 < 1920) = true
    simp; omega
  · have t := int_text_length_le10 (k := 40) (by decide) h
    simp only [PyData.leavesShort, decide_eq_true_eq]
    show (Str.ofString (toString i)).length ≤ 45
    rw [ofString_length]; omega
  · show (if i == 0 then 0 else i.natAbs.log2 + 1) ≤ n
    split <;> omega
theorem Sm.int {k n : Nat} {i : Int} (h1 : -100000 ≤ i) (h2 : i ≤ 100000) (hn : 140 ≤ n) : Sm k n (.int i) :=
  .big (Nat.lt_of_le_of_lt (show i.natAbs ≤ 100000 by omega) (by decide)) hn
mutual
theorem Sm.self : ∀ {k n : Nat} {d : D}, Sm k n d → ∀ m : Nat, k ≤ m → eqD m d d = some true
  | _, _, _, .non, m, _ => by cases m <;> rfl
  | _, _, _, .bl, m, _ => by cases m <;> simp [eqD, eqE, eqS]
  | _, _, _, .num _ _ _, m, _ => by cases m <;> simp [eqD, eqE, eqS]
  | _, _, _, .str _ _, m, _ => by cases m <;> simp [eqD, eqE, eqS]
  | _, _, _, .dic, m, _ => by cases m <;> rfl
  | _, _, _, .tup h, 0, hm => by omega
  | _, _, _, .tup h, m + 1, hm => SmL.self h m (by omega)
  | _, _, _, .lst h, 0, hm => by omega
  | _, _, _, .lst h, m + 1, hm => by
    simp only [eqD, if_true]
    exact SmL.self h m (by omega)
theorem SmL.self : ∀ {k n : Nat} {ds : List D}, SmL k n ds → ∀ m : Nat, k ≤ m → eqL (eqD m) ds ds = some true
  | _, _, _, .nil, m, _ => rfl
  | _, _, _, .cons h1 h2 _, m, hm => by
    rw [eqL, Sm.self h1 m hm, SmL.self h2 m hm]; rfl
end
mutual
/-- small, by its leaves and depth; nD counts its parts -/
inductive SmC : Nat → D → Prop
  | non {k : Nat} : SmC k .non
  | bl {k : Nat} {b : Bool} : SmC k (.bl b)
  | num {k : Nat} {i : Int} : i.natAbs < 10 ^ 40 → SmC k (.int i)
  | str {k : Nat} {s : List Nat} : (∀ c ∈ s, c < 1000) → s.length ≤ 140 → SmC k (.str s)
  | dic {k : Nat} : SmC (k + 1) (.dic [] [])
  | tup {k : Nat} {xs : List D} : SmCL k xs → SmC (k + 1) (.tup xs)
  | lst {k : Nat} {xs : List D} : SmCL k xs → SmC (k + 1) (.lst xs)
inductive SmCL : Nat → List D → Prop
  | nil {k : Nat} : SmCL k []
  | cons {k : Nat} {x : D} {xs : List D} : SmC k x → SmCL k xs → SmCL k (x :: xs)
end
mutual
def nD : D → Nat
  | .tup xs => nL xs
  | .lst xs => nL xs
  | _ => 1
def nL : List D → Nat
  | [] => 0
  | x :: xs => nD x + 1 + nL xs
end
theorem SmC.int {k : Nat} {i : Int} (h1 : -100000 ≤ i) (h2 : i ≤ 100000) : SmC k (.int i) := .num (Nat.lt_of_le_of_lt (show i.natAbs ≤ 100000 by omega) (by decide))
end Wc
namespace Wc
open PySem L2
def lenN (c i : Nat) (F : M W) : M W := pk i >>= fun x => ofO (chkC c x) >>= fun _ => apA [.inl i] F >>= fun w => ofO (lenW w)
theorem w_lenN {c i : Nat} {F : M W} {e : Env'} {Q : W → Env' → Prop} (h : ∃ w0, e[i]? = some (some w0) ∧ (∃ u, chkC c w0.view = some u) ∧ Wp (apA [.inl i] F e) fun w e' => ∃ w', lenW w = some w' ∧ Q w' e') : Wp (lenN c i F e) Q := by
  obtain ⟨w0, h1, ⟨u, h2⟩, h3⟩ := h
  unfold lenN
  refine w_bind.mpr (w_pk.mpr ⟨w0, h1, ?_⟩)
  refine w_bind.mpr ?_
  rw [h2]
  refine w_ok.mpr (w_bind.mpr (h3.mono fun w e' ⟨w', h4, h5⟩ => ?_))
  rw [h4]
  exact w_ok.mpr h5
instance s_lenN {c i : Nat} {F : M W} {e : Env'} {Q : W → Env' → Prop} : WStep (Wp (lenN c i F e) Q) (∃ w0, e[i]? = some (some w0) ∧ (∃ u, chkC c w0.view = some u) ∧ Wp (apA [.inl i] F e) fun w e' => ∃ w', lenW w = some w' ∧ Q w' e') := ⟨w_lenN⟩
end Wc
namespace Wc
open PySem L2
instance s_dic0 {α : Type} {inj : W → α} {e : Env'} {Q : α → Env' → Prop} : WStep (Wp (dic0M inj e) Q) (Q (inj (.sh (.dic [] []))) e) := ⟨w_dic0.mpr⟩
theorem ixs_head {c : Nat} {r : List Nat} : ixD (.str (c :: r)) (.int 0) = some (.sh (.str [c])) := by
  have e : ixN (r.length + 1) (0 : Int) = some 0 := by
    unfold ixN
    rw [if_pos (by omega)]
    simp
  show ((ixN (r.length + 1) (0 : Int)).bind fun n => (c :: r)[n]?).map (fun c => W.sh (.str [c])) = _
  rw [e]; rfl
instance s_ixs0 {c : Nat} {r : List Nat} {Q : W → Prop} : WStep (∃ w, ixD (.str (c :: r)) (.int 0) = some w ∧ Q w) (Q (.sh (.str [c]))) := ⟨fun q => ⟨_, ixs_head, q⟩⟩
end Wc
namespace Wc
open PySem L2
mutual
theorem Sm.deeper : ∀ {k n : Nat} {d : D}, Sm k n d → ∀ {m : Nat}, k ≤ m → Sm m n d
  | _, _, _, .non, _, _ => .non
  | _, _, _, .bl, _, _ => .bl
  | _, _, _, .num a b c, _, _ => .num a b c
  | _, _, _, .str a b, _, _ => .str a b
  | _, _, _, .dic, 0, h => absurd h (by omega)
  | _, _, _, .dic, m + 1, _ => .dic
  | _, _, _, .tup a, 0, h => absurd h (by omega)
  | _, _, _, .tup a, m + 1, h => .tup (SmL.deeper a (by omega))
  | _, _, _, .lst a, 0, h => absurd h (by omega)
  | _, _, _, .lst a, m + 1, h => .lst (SmL.deeper a (by omega))
theorem SmL.deeper : ∀ {k n : Nat} {ds : List D}, SmL k n ds → ∀ {m : Nat}, k ≤ m → SmL m n ds
  | _, _, _, .nil, _, _ => .nil
  | _, _, _, .cons a b c, _, h => .cons (Sm.deeper a h) (SmL.deeper b h) c
end
end Wc
namespace Wc
open PySem PyProof.Rows L2
structure FnQ (P : Program) (w : World) (K : PySem.W.Frag) (mg : Str → Option Value) (base : Heap) (k : Nat) (f : Addr) (fd : FuncData) (ps : List Str) (sp : Sp) : Prop where
  len : ∀ vs H Q E, sp vs H Q E → vs.length = ps.length
  run : ∀ (A : Around) (outer : List Env) (s : Shared) (H : Hp) (args : Args) (us : List Value) (vs : List V) (Q : VK) (E : XK), A.guards = some [] → L2H.RoomH k A → Env0 P w K mg base A outer s H →
    BindsTo s fd args (ps.zip us) → Vals vs us → sp vs H Q E → codeAny (model P w) A (.call (.ref f) args) (CR (L2.CX P w) outer P w H s Q E) s
theorem FnQ.mono {P : Program} {w : World} {K : PySem.W.Frag} {mg : Str → Option Value} {base : Heap} {j k : Nat} {f : Addr} {fd : FuncData} {ps : List Str} {sp : Sp} (F : FnQ P w K mg base j f fd ps sp) (h : j ≤ k) : FnQ P w K mg base k f fd ps sp :=
  ⟨F.len, fun A outer s H args us vs Q E hg hr => F.run A outer s H args us vs Q E hg (hr.mono h)⟩
end Wc
namespace Wc
open PySem L2
def ownRM (c : Nat) (f g : M D) (F : M W) : M W := f >>= fun x => g >>= fun y => ofO (chkC c y) >>= fun _ => ofO (chkI x) >>= fun _ => apA [.inr y, .inr x] F
theorem w_ownR {c : Nat} {f g : M D} {F : M W} {e : Env'} {Q : W → Env' → Prop} : Wp (ownRM c f g F e) Q ↔ Wp (f e) fun x e' => Wp (g e') fun y e' => (∃ u, chkC c y = some u) ∧ (∃ u, chkI x = some u) ∧ Wp (apA [.inr y, .inr x] F e') Q := by
  unfold ownRM
  simp only [w_bind, w_ofO]
  constructor <;> intro h <;> refine h.mono fun x e' h => h.mono fun y e' h => ?_
  · obtain ⟨u, h1, u2, h2, h3⟩ := h; exact ⟨⟨u, h1⟩, ⟨u2, h2⟩, h3⟩
  · obtain ⟨⟨u, h1⟩, ⟨u2, h2⟩, h3⟩ := h; exact ⟨u, h1, u2, h2, h3⟩
instance s_ownR {c : Nat} {f g : M D} {F : M W} {e : Env'} {Q : W → Env' → Prop} : WStep (Wp (ownRM c f g F e) Q) (Wp (f e) fun x e' => Wp (g e') fun y e' => (∃ u, chkC c y = some u) ∧ (∃ u, chkI x = some u) ∧ Wp (apA [.inr y, .inr x] F e') Q) := ⟨w_ownR.mpr⟩
end Wc
namespace Wc
open PySem PySem.Spec PyProof.Rows L2
def er (H : Hp) (p : Addr) : Hp := fun a => if a = p then none else H a
section
variable {X : Cx} {T : Cl} {Wx : WX} {α : Type} {κ : Kind α V} {inj : W → α} {e : Expr} {f : M D} {pos kp : Pos}
def dic1M (inj : W → α) (k : List Nat) (f : M D) : M α := f >>= fun d => ofO (some (inj (.sh (.dic [.inr ⟨k.toArray⟩] [d]))))
theorem w_dic1 {k : List Nat} {en : Env'} {Q : α → Env' → Prop} : Wp (dic1M inj k f en) Q ↔ Wp (f en) fun d e' => Q (inj (.sh (.dic [.inr ⟨k.toArray⟩] [d]))) e' := by
  unfold dic1M
  rw [w_bind]
  exact w_iff fun d e' => by simp
end
instance s_dic1 {α : Type} {inj : W → α} {f : M D} {k : List Nat} {en : Env'} {Q : α → Env' → Prop} : WStep (Wp (dic1M inj k f en) Q) (Wp (f en) fun d e' => Q (inj (.sh (.dic [.inr ⟨k.toArray⟩] [d]))) e') := ⟨w_dic1.mpr⟩
end Wc
namespace Wc
open PySem L2
def FUEL : Nat := 100000
section
variable {e : Env'}
theorem wp_whileM {b : M Bool} {F : M Fl} {Q : Fl → Env' → Prop} (I : Nat → Env' → Prop) (hs : ∀ m e, I m e → Wp (b e) fun c e1 => if c = true then Wp (F e1) (flQ (fun e2 => ∃ k, k < m ∧ I k e2) (Q .nx) fun w => Q (.ret w)) else Q .nx e1) :
    ∀ (n : Nat) (m : Nat) (e : Env'), m < n → I m e → Wp (whileM b F n e) Q
  | 0, m, e, h, _ => absurd h (Nat.not_lt_zero m)
  | n + 1, m, e, h, hi => by
    obtain ⟨c, e1, h1, h2⟩ := (hs m e hi).get
    show Wp (R.bind (b e) _) Q
    rw [h1]
    cases c with
    | false => exact w_ok.mpr h2
    | true =>
      have h2 : Wp (F e1) (flQ (fun e2 => ∃ k, k < m ∧ I k e2) (Q .nx) fun w => Q (.ret w)) := h2
      obtain ⟨fl, e2, h3, h4⟩ := h2.get
      show Wp (match F e1 with
        | .ok .nx e => whileM b F n e
        | .ok .cont e => whileM b F n e
        | .ok .brk e => .ok .nx e
        | .ok (.ret w) e => .ok (.ret w) e
        | .exc c ns xs e => .exc c ns xs e
        | .bad => .bad) Q
      rw [h3]
      have go : (∃ k, k < m ∧ I k e2) → Wp (whileM b F n e2) Q := fun ⟨k, q1, q2⟩ => wp_whileM I hs n k e2 (by omega) q2
      cases fl with
      | nx => exact go h4
      | cont => exact go h4
      | brk => exact w_ok.mpr h4
      | ret w => exact w_ok.mpr h4
theorem wp_whil {b : M Bool} {F : M Fl} {Q : Fl → Env' → Prop} (I : Nat → Env' → Prop) (m : Nat) (hm : m < 100000) (h0 : I m e) (hs : ∀ m e, I m e → Wp (b e) fun c e1 => if c = true then Wp (F e1) (flQ (fun e2 => ∃ k, k < m ∧ I k e2) (Q .nx) fun w => Q (.ret w)) else Q .nx e1) : Wp (whilF (fun _ => FUEL) b F e) Q :=
  wp_whileM I hs FUEL m e hm h0
end
end Wc
namespace Wc
open PySem L2
def keyD : D → Option Key
  | .int i => some (.inl i)
  | .str s => some (.inr ⟨s.toArray⟩)
  | _ => none
def getK (k : Key) : List Key → List D → Option D
  | m :: ks, d :: ds => if m = k then some d else getK k ks ds
  | _, _ => none
def hasK (k : Key) (ks : List Key) : Bool := ks.any fun m => decide (m = k)
def putKs (k : Key) (ks : List Key) : List Key := if hasK k ks = true then ks else ks ++ [k]
def replK (k : Key) (y : D) : List Key → List D → List D
  | m :: ks, d :: ds => (if m = k then y else d) :: replK k y ks ds
  | _, _ => []
def putDs (k : Key) (y : D) (ks : List Key) (ds : List D) : List D := if hasK k ks = true then replK k y ks ds else ds ++ [y]
def inK (e d : D) : Option W := match d with
  | .dic ks ds => (keyD e).map fun k => .sh (.bl (getK k ks ds).isSome)
  | _ => none
section
variable {X : Cx} {T : Cl} {Wx : WX} {α : Type} {κ : Kind α V} {inj : W → α} {a b e o : Expr} {f g k : M D} {p pos apos : Pos} {i : Nat} {as : List Nat}
def wrK (i : Nat) (k : Key) (y : D) : M Fl := fun env => match env[i]? with
  | some (some (.md ks ds)) => if ks.length < 1000000 then .ok .nx (env.set i (some (.md (putKs k ks) (putDs k y ks ds)))) else .bad
  | _ => .bad
def setK (i : Nat) (k f : M D) : M Fl := f >>= fun y => pk i >>= fun _ => k >>= fun d => ofO (keyD d) >>= fun q => wrK i q y
end
end Wc
namespace Wc
open PySem L2
def dsp : List D → List Key → List D → Option (List Key × List D)
  | [], ks, ds => some (ks, ds)
  | k :: v :: r, ks, ds => (keyD k).bind fun q => dsp r (putKs q ks) (putDs q v ks ds)
  | _, _, _ => none
def prs : List V → List (V × V)
  | x :: y :: r => (x, y) :: prs r
  | _ => []
section
variable {X : Cx} {T : Cl} {Wx : WX} {α : Type} {κ : Kind α V} {inj : W → α} {e : Expr} {f : M D} {pos kp : Pos}
/-- the pairs of a display -/
inductive PPr (X : Cx) (T : Cl) (Wx : WX) (pos : Pos) : List (Option Expr) → List Expr → List (M D) → List (TE × TE) → Prop
  | nil : PPr X T Wx pos [] [] [] []
  | cons {k v : Expr} {ks : List (Option Expr)} {vs : List Expr} {f g : M D} {r : List (M D)} {trs : List (TE × TE)} : PE X k (TF T Wx KD f) → PE X v (TF T Wx KD g) → PPr X T Wx pos ks vs r trs →
      PPr X T Wx pos (some k :: ks) (v :: vs) (f :: g :: r) ((TF T Wx KD f, TF T Wx KD g) :: trs)
theorem PPr.rd {ks : List (Option Expr)} {vs : List Expr} {r : List (M D)} {trs : List (TE × TE)} (h : PPr X T Wx pos ks vs r trs) : ∀ {σ : St} {H : Hp} {Q : List (V × V) → Hp → Prop}, TF T Wx KL (evL r) σ H (fun us H1 => Q (prs us) H1) → tPairs trs σ H Q := by
  induction h with
  | nil =>
    intro σ H Q ⟨Z, env, r0, p⟩
    exact p Z H [] ((Adv.refl (O := Owns σ env) r0.ex).weak fun y hy => hy.elim id fun z => z.elim) r0 rfl fun _ z => z.elim
  | @cons k v ks vs f g r trs h1 h2 _ ih =>
    intro σ H Q q0
    show TF T Wx KD f σ H _
    refine TF.bind q0 fun Z1 H1 v1 d env1 r1 s1 _ p1 => ?_
    have p1 := p1.later ((Adv.refl (O := fun a => Owns σ env1 a ∨ KD.ext v1 d a) r1.ex).weak (O2 := Owns σ env1) fun y hy => .inl hy)
    have p1 : Post T Wx KL σ (Owns σ env1) Z1 H1 (((evL (g :: r)) env1).bind fun ds => M.pure (d :: ds)) (fun us H2 => Q (prs us) H2) := p1
    have q1 : TF T Wx KL (g >>= fun y => evL r >>= fun ds => M.pure (d :: y :: ds)) σ H1 (fun us H2 => Q (prs us) H2) := by
      refine ⟨Z1, env1, r1, ?_⟩
      have e : ((evL (g :: r)) env1).bind (fun ds => M.pure (d :: ds)) = (g >>= fun y => evL r >>= fun ds => M.pure (d :: y :: ds)) env1 := by
        show ((g env1).bind fun y => evL r >>= fun ds => M.pure (y :: ds)).bind _ = (g env1).bind _
        cases g env1 with
        | bad => rfl
        | exc _ _ _ _ => rfl
        | ok y e2 =>
          show ((evL r e2).bind fun ds => M.pure (y :: ds)).bind _ = (evL r e2).bind _
          cases evL r e2 <;> rfl
      rw [e] at p1
      exact p1
    obtain ⟨Z0, env0, r0, p0⟩ := q1
    refine ⟨Z1, env1, r1, ?_⟩
    have p2 : Post T Wx KL σ (Owns σ env1) Z1 H1 ((g >>= fun y => evL r >>= fun ds => M.pure (d :: y :: ds)) env1) (fun us H2 => Q (prs us) H2) := by
      have e : ((evL (g :: r)) env1).bind (fun ds => M.pure (d :: ds)) = (g >>= fun y => evL r >>= fun ds => M.pure (d :: y :: ds)) env1 := by
        show ((g env1).bind fun y => evL r >>= fun ds => M.pure (y :: ds)).bind _ = (g env1).bind _
        cases g env1 with
        | bad => rfl
        | exc _ _ _ _ => rfl
        | ok y e2 =>
          show ((evL r e2).bind fun ds => M.pure (y :: ds)).bind _ = (evL r e2).bind _
          cases evL r e2 <;> rfl
      rw [e] at p1
      exact p1
    have p2 : Post T Wx KL σ (Owns σ env1) Z1 H1 ((g env1).bind fun y => evL r >>= fun ds => M.pure (d :: y :: ds)) (fun us H2 => Q (prs us) H2) := p2
    cases e2 : g env1 with
    | bad => rw [e2] at p2; exact p2
    | exc c ns xs env2 => rw [e2] at p2; exact p2
    | ok y env2 =>
      rw [e2] at p2
      intro Z2 H2 v2 a2 r2 s2 _
      refine ih ?_
      refine ⟨Z2, env2, r2, ?_⟩
      have p2 : Post T Wx KL σ (Owns σ env1) Z1 H1 ((evL r env2).bind fun ds => M.pure (d :: y :: ds)) (fun us H2 => Q (prs us) H2) := p2
      cases e3 : evL r env2 with
      | bad => rw [e3] at p2; exact p2.elim
      | exc c ns xs env3 =>
        rw [e3] at p2
        exact fun Z' H' cls dd a r3 k => p2 Z' H' cls dd ((a2.weak fun x hx => .inl hx).trans a) r3 k
      | ok ds env3 =>
        rw [e3] at p2
        intro Z3 H3 us a3 r3 s3 _
        exact p2 Z3 H3 (v1 :: v2 :: us) (((a2.weak fun x hx => .inl hx).trans a3).weak fun x hx => .inl (hx.elim id fun z => z.elim)) r3 ⟨v1, _, rfl, Sh.mono (a2.zz.trans a3.zz) d v1 s1, v2, us, rfl, Sh.mono a3.zz y v2 s2, s3⟩ fun _ z => z.elim
def dicM (inj : W → α) (r : List (M D)) : M α := evL r >>= fun ds => ofO ((dsp ds [] []).map fun p => inj (.md p.1 p.2))
theorem Now.md {σ : L2.St} {env : Env'} {Z H : Hp} {Q : VK} {p : Addr} {ks : List Key} {ds : List D} {kv : List (Key × V)} (h : Now T σ env Z H (.md ks ds) Q) (r : REnv T Z H σ env) (hp : H p = none) (e : kv.map (·.1) = ks) (s : ShL T Z ds (kv.map (·.2))) : Q (.ref p) (upd H p (.dK kv)) :=
  h Z _ (.ref p) ((Adv.newO r.ex hp).weak fun y hy => hy.imp id fun z => by have := z.2; cases this; rfl) (r.newO hp) ⟨p, kv, rfl, Evl.fresh_back r.ex hp, upd_same, e, s⟩ fun a z => by
    have e := z.2
    cases e
    exact Owns.fresh r hp
def dic0N (inj : W → α) : M α := ofO (some (inj (.md [] [])))
end
end Wc
namespace Wc
open PySem L2
inductive PKws (X : Cx) (T : Cl) (Wx : WX) : List Keyword → List (M D) → TA → Prop
  | nil : PKws X T Wx [] [] tNil
  | cons {e : Expr} {nm : Option Str} {kpos : Pos} {kws : List Keyword} {f : M D} {r : List (M D)} {t : TA} : PE X e (TF T Wx KD f) → PKws X T Wx kws r t → PKws X T Wx (⟨nm, e, kpos⟩ :: kws) (f :: r) (tCons (TF T Wx KD f) t)
section
variable {X : Cx} {T : Cl} {Wx : WX} {k np n : Nat} {fa : Addr} {fd : FuncData} {ps ks : List Str} {x : Str} {pp pos : Pos} {e : Expr} {es : List Expr} {as : List (Sum Nat (M D))} {fs : List (M D)} {kws : List Keyword} {t tk' : TA} {f : M W}
theorem PKws.rd {kws : List Keyword} {r : List (M D)} {t : TA} (h : PKws X T Wx kws r t) : ∀ {σ : St} {H : Hp} {Q : List V → Hp → Prop}, TF T Wx KL (evL r) σ H Q → t σ H Q := by
  induction h with
  | nil =>
    intro σ H Q ⟨Z, env, r0, p⟩
    exact p Z H [] ((Adv.refl (O := Owns σ env) r0.ex).weak fun y hy => hy.elim id fun z => z.elim) r0 rfl fun _ z => z.elim
  | @cons e nm kpos kws f r t h1 _ ih =>
    intro σ H Q q0
    refine TF.bind q0 fun Z1 H1 v d env1 r1 s1 _ p1 => ih ?_
    have p1 := p1.later ((Adv.refl (O := fun a => Owns σ env1 a ∨ KD.ext v d a) r1.ex).weak (O2 := Owns σ env1) fun y hy => .inl hy)
    refine ⟨Z1, env1, r1, ?_⟩
    have p1 : Post T Wx KL σ (Owns σ env1) Z1 H1 ((evL r env1).bind fun ds => M.pure (d :: ds)) Q := p1
    cases e2 : evL r env1 with
    | ok xs env2 =>
      rw [e2] at p1
      intro Z2 H2 vs a2 r2 s2 _
      exact p1 Z2 H2 (v :: vs) (a2.trans ((Adv.refl (O := fun a => Owns σ env2 a ∨ KL.ext vs xs a) r2.ex).weak fun y hy => .inl (hy.elim id fun z => z.elim))) r2 ⟨v, vs, rfl, Sh.mono a2.zz d v s1, s2⟩ fun _ z => z.elim
    | exc c ns ds env2 => rw [e2] at p1; exact p1
    | bad => rw [e2] at p1; exact p1
def callNM (as : List (Sum Nat (M D))) (fs : List (M D)) (gA : List Ag → List Ag → List Ag) (f : M W) : M W := evA as >>= fun xs => evL fs >>= fun zs => apA (gA xs (zs.map .inr)) f
theorem AgR.inr {T : Cl} {Z : Hp} {σ : St} : ∀ {ds : List D} {vs : List V}, ShL T Z ds vs → AgR T Z σ (ds.map .inr) vs
  | [], vs, h => h
  | d :: ds, vs, ⟨v, r, e, h1, h2⟩ => ⟨v, r, e, h1, AgR.inr h2⟩
theorem AgR.append {T : Cl} {Z : Hp} {σ : St} : ∀ {xs ys : List Ag} {vs us : List V}, AgR T Z σ xs vs → AgR T Z σ ys us → AgR T Z σ (xs ++ ys) (vs ++ us)
  | [], _, _, _, h, k => by rw [show _ = ([] : List V) from h]; exact k
  | .inl _ :: r, _, _, _, ⟨v, q, h1, h2, h3⟩, k => ⟨v, q ++ _, by rw [h1]; rfl, h2, AgR.append h3 k⟩
  | .inr _ :: r, _, _, _, ⟨v, q, h1, h2, h3⟩, k => ⟨v, q ++ _, by rw [h1]; rfl, h2, AgR.append h3 k⟩
end
end Wc
namespace Wc
open PySem PySem.Spec PyProof.Rows L2
section
variable {α : Type} {e : Env'} {inj : W → α} {i : Nat}
@[simp] theorem w_wrK {k : Key} {y : D} {Q : Fl → Env' → Prop} : Wp (wrK i k y e) Q ↔ ∃ ks ds, e[i]? = some (some (.md ks ds)) ∧ ks.length < 1000000 ∧ Q .nx (e.set i (some (.md (putKs k ks) (putDs k y ks ds)))) := by
  unfold wrK
  split
  · rename_i ks ds h
    split
    · rename_i hl
      constructor
      · intro z; exact ⟨ks, ds, h, hl, w_ok.mp z⟩
      · rintro ⟨ks', ds', h1, _, z⟩
        rw [h] at h1; cases h1; exact w_ok.mpr z
    · rename_i hl
      simp only [w_bad, false_iff]
      rintro ⟨ks', ds', h1, h2, _⟩
      rw [h] at h1; cases h1; exact hl h2
  · rename_i h
    simp only [w_bad, false_iff]
    rintro ⟨ks', ds', h1, _⟩
    exact h _ _ h1
@[simp] theorem w_setK {k f : M D} {Q : Fl → Env' → Prop} : Wp (setK i k f e) Q ↔ Wp (f e) fun y e' => ∃ w, e'[i]? = some (some w) ∧ Wp (k e') fun d e' => ∃ q, keyD d = some q ∧ ∃ ks ds, e'[i]? = some (some (.md ks ds)) ∧ ks.length < 1000000 ∧ Q .nx (e'.set i (some (.md (putKs q ks) (putDs q y ks ds)))) := by
  show Wp (R.bind (f e) fun y e => R.bind (pk i e) fun _ e => R.bind (k e) fun d e => R.bind (ofO (keyD d) e) fun q => wrK i q y) Q ↔ _
  rw [w_rb]
  refine w_iff fun y e' => ?_
  rw [w_rb, w_pk]
  refine exists_congr fun w => and_congr_right fun _ => ?_
  rw [w_rb]
  refine w_iff fun d e' => ?_
  refine w_rb.trans (w_ofO.trans ?_)
  refine exists_congr fun q => and_congr_right fun _ => ?_
  exact w_wrK
instance s_setK {k f : M D} {Q : Fl → Env' → Prop} : WStep (Wp (setK i k f e) Q) (Wp (f e) fun y e' => ∃ w, e'[i]? = some (some w) ∧ Wp (k e') fun d e' => ∃ q, keyD d = some q ∧ ∃ ks ds, e'[i]? = some (some (.md ks ds)) ∧ ks.length < 1000000 ∧ Q .nx (e'.set i (some (.md (putKs q ks) (putDs q y ks ds))))) := ⟨w_setK.mpr⟩
theorem w_dicM {r : List (M D)} {Q : α → Env' → Prop} : Wp (dicM inj r e) Q ↔ Wp (evL r e) fun ds e' => ∃ p, dsp ds [] [] = some p ∧ Q (inj (.md p.1 p.2)) e' := by
  unfold dicM
  rw [w_bind]
  refine w_iff fun ds e' => ?_
  rw [w_ofO]
  constructor
  · rintro ⟨a, h, q⟩
    obtain ⟨p, h1, rfl⟩ := Option.map_eq_some_iff.mp h
    exact ⟨p, h1, q⟩
  · rintro ⟨p, h1, q⟩
    exact ⟨_, by rw [h1]; rfl, q⟩
instance s_dicM {r : List (M D)} {Q : α → Env' → Prop} : WStep (Wp (dicM inj r e) Q) (Wp (evL r e) fun ds e' => ∃ p, dsp ds [] [] = some p ∧ Q (inj (.md p.1 p.2)) e') := ⟨w_dicM.mpr⟩
instance s_dic0N {Q : α → Env' → Prop} : WStep (Wp (dic0N inj e) Q) (Q (inj (.md [] [])) e) := ⟨fun q => w_ok.mpr q⟩
theorem w_callNM {as : List (Sum Nat (M D))} {fs : List (M D)} {gA : List Ag → List Ag → List Ag} {F : M W} {Q : W → Env' → Prop} : Wp (callNM as fs gA F e) Q ↔ Wp (evA as e) fun xs e' => Wp (evL fs e') fun zs e' => Wp (apA (gA xs (zs.map .inr)) F e') Q := by
  unfold callNM
  rw [w_bind]
  refine w_iff fun xs e' => ?_
  rw [w_bind]
instance s_callNM {as : List (Sum Nat (M D))} {fs : List (M D)} {gA : List Ag → List Ag → List Ag} {F : M W} {Q : W → Env' → Prop} : WStep (Wp (callNM as fs gA F e) Q) (Wp (evA as e) fun xs e' => Wp (evL fs e') fun zs e' => Wp (apA (gA xs (zs.map .inr)) F e') Q) := ⟨w_callNM.mpr⟩
end
end Wc
namespace Wc
open PySem L2
/-- a step whose side condition is arithmetic -/
class XStep (P : Prop) (S : outParam Prop) (P' : outParam Prop) : Prop where
  mpr : S → P' → P
/-- a step tried behind computing -/
class YStep (P : Prop) (S : outParam Prop) (P' : outParam Prop) : Prop where
  mpr : S → P' → P
instance x_rep {x : D} {m : Nat} {Q : W → Prop} : XStep (∃ w, mulD (.lst [x]) (.int (m : Int)) = some w ∧ Q w) (m ≤ 1000) (Q (.ml (List.replicate m x))) := ⟨fun h q => rep_ex h q⟩
instance x_lenW {n : Nat} {Q : W → Prop} : XStep (∃ w, lenW (.sh (.int (n : Int))) = some w ∧ Q w) (n ≤ 100000) (Q (.sh (.int (n : Int)))) := ⟨fun h q => lenW_ex h q⟩
instance x_adds {s t : List Nat} {Q : W → Prop} : XStep (∃ w, addD (.str s) (.str t) = some w ∧ Q w) (s.length + t.length ≤ 100000) (Q (.sh (.str (s ++ t)))) := ⟨fun h q => adds_ex h q⟩
instance x_mulc {c m : Nat} {Q : W → Prop} : XStep (∃ w, mulD (.str [c]) (.int (m : Int)) = some w ∧ Q w) (m ≤ 1000) (Q (.sh (.str (List.replicate m c)))) := ⟨fun h q => mul_ex h q⟩
instance x_itR1 {j : Int} {Q : List D → Prop} : XStep (∃ xs, itR1 (.int j) = some xs ∧ Q xs) (0 ≤ j ∧ j ≤ 16777216) (Q (rng 0 j.toNat)) := ⟨fun h q => itR1_ex h.1 h.2 q⟩
instance x_itR2 {i j : Int} {Q : List D → Prop} : XStep (∃ xs, itR2 (.int i) (.int j) = some xs ∧ Q xs) (-100000 ≤ i ∧ i ≤ 100000 ∧ -100000 ≤ j ∧ j ≤ 100000) (Q (rng i (j - i).toNat)) := ⟨fun h q => itR2_ex h.1 h.2.1 h.2.2.1 h.2.2.2 q⟩
theorem mulD01 {i : Int} {b : Bool} : mulD (.int i) (.int (if b = true then 1 else 0)) = some (.sh (.int (if b = true then i else 0))) := by
  cases b
  · have := mulD_r (i := i) (j := 0) (by decide) (by decide)
    rw [Int.mul_zero] at this
    exact this
  · have := mulD_r (i := i) (j := 1) (by decide) (by decide)
    rw [Int.mul_one] at this
    exact this
instance x_mul01 {i : Int} {b : Bool} {Q : W → Prop} : XStep (∃ w, mulD (.int i) (.int (if b = true then 1 else 0)) = some w ∧ Q w) ((0 : Nat) ≤ 0) (Q (.sh (.int (if b = true then i else 0)))) := ⟨fun _ q => ⟨_, mulD01, q⟩⟩
instance y_mulD {i j : Int} {Q : W → Prop} : YStep (∃ w, mulD (.int i) (.int j) = some w ∧ Q w) ((-(2 ^ 64) < j ∧ j < 2 ^ 64) ∨ (-(2 ^ 64) < i ∧ i < 2 ^ 64)) (Q (.sh (.int (i * j)))) := ⟨fun h q => ⟨_, h.elim (fun h => mulD_r h.1 h.2) (fun h => mulD_l h.1 h.2), q⟩⟩
instance y_modD {i j : Int} {Q : W → Prop} : YStep (∃ w, modD (.int i) (.int j) = some w ∧ Q w) (0 < j) (Q (.sh (.int (i % j)))) := ⟨fun h q => ⟨_, modD_pos h, q⟩⟩
instance y_fdivD {i j : Int} {Q : W → Prop} : YStep (∃ w, fdivD (.int i) (.int j) = some w ∧ Q w) (0 < j ∧ j < 1073741824) (Q (.sh (.int (i / j)))) := ⟨fun h q => ⟨_, fdivD_pos h.1 h.2, q⟩⟩
end Wc
namespace Wc
open PySem PySem.Spec PyProof.Rows L2
abbrev sC2 (el g0 u0 g1 u1 : Expr) (js0 js1 : List Expr) (sc : Scope) (ps : Pos) : Expr := .SetComp el [⟨g0, u0, js0, 0⟩, ⟨g1, u1, js1, 0⟩] sc ps
section
variable {P : Program} {w : World} {A : Around} {R : Result → Shared → Prop} {s : Shared} {el g0 u0 g1 u1 : Expr} {js0 js1 : List Expr} {sc : Scope} {ps : Pos} {it ac : Value} {en : Env}
theorem turnS0 : compTurn (sC2 el g0 u0 g1 u1 js0 js1 sc ps) 0 it ac en = (do
      standAt u0.pos
      match ← pyNext it with
      | none => pure (.done .next)
      | some z =>
        letOwnedTupleGo g0 it z
        assign g0 en z
        let mut yes := true
        for y in js0 do
          if yes then yes ← isTrue y en (eval y en)
        if yes then
          let xs ← eval u1 en
          standAt u1.pos
          let xs ← foldedSetIterable u1 en xs
          let _ ← runOwn (.compStart (sC2 el g0 u0 g1 u1 js0 js1 sc ps) 1 (← holding [xs] (pyIter xs)) ac en) en
        again (.compLoop (sC2 el g0 u0 g1 u1 js0 js1 sc ps) 0 it ac en)) := by rfl
theorem turnS1 : compTurn (sC2 el g0 u0 g1 u1 js0 js1 sc ps) 1 it ac en = (do
      standAt u1.pos
      match ← pyNext it with
      | none => pure (.done .next)
      | some z =>
        letOwnedTupleGo g1 it z
        assign g1 en z
        let mut yes := true
        for y in js1 do
          if yes then yes ← isTrue y en (eval y en)
        if yes then
          (do let z ← eval el en; standAt el.pos; let _ ← call (.builtin "set.add") [ac, z])
        again (.compLoop (sC2 el g0 u0 g1 u1 js0 js1 sc ps) 1 it ac en)) := by rfl
def testsS (js : List Expr) (en : Env) : Sem Bool := forIn js true fun y r => if r = true then do let ok ← isTrue y en (eval y en); pure (ForInStep.yield ok) else pure (ForInStep.yield r)
def badS (M : Model) (A : Around) (en : Env) (R : Result → Shared → Prop) : Value → Shared → Prop := notedBy M A en fun e s' => R (.error e) s'
/-- the first clause's loop -/
theorem loopS0 (hs : ∀ x, foldedSetIterable u1 en x = pure x) (J : Nat → Shared → Prop)
    (turn : ∀ n s, J n s → wpAny (model P w) A (pyNext it) (fun r a1 => match r with
      | none => R (.ok .next) a1
      | some z => wpAny (model P w) A (letOwnedTupleGo g0 it z) (fun _ a2 => wpAny (model P w) A (assign g0 en z) (fun _ a3 => wpAny (model P w) A (testsS js0 en) (fun yes a4 =>
            if yes = true then wpAny (model P w) A (eval u1 en) (fun x a5 => wpAny (model P w) A (pyIter x) (fun i2 a6 => codeAny (model P w) A (.compStart (sC2 el g0 u0 g1 u1 js0 js1 sc ps) 1 i2 ac en) (fun r b => match r with
                | .ok _ => ∃ m, m < n ∧ J m b
                | .error _ => False) a6) (badS (model P w) A en R) a5) (badS (model P w) A en R) a4
            else ∃ m, m < n ∧ J m a4) (badS (model P w) A en R) a3) (badS (model P w) A en R) a2) (badS (model P w) A en R) a1) (badS (model P w) A en R) s)
    (n : Nat) (h : J n s) : codeAny (model P w) A (.compLoop (sC2 el g0 u0 g1 u1 js0 js1 sc ps) 0 it ac en) R s := by
  refine codeAny_loop rfl J (fun n s hJ => ?_) n h
  show wpAny _ A ((compTurn (sC2 el g0 u0 g1 u1 js0 js1 sc ps) 0 it ac en).onRaise (fun x => do noteFrame x en; theTreesLotGoes x)) _ _ s
  refine wpAny_noted ?_
  rw [turnS0]
  refine wpAny_bind (wpAny_standAt (wpAny_bind (wpAny_mono (turn n s hJ) (fun r a1 q1 => ?_) fun _ _ z => z)))
  cases r with
  | none => exact wpAny_pure q1
  | some z =>
    refine wpAny_bind (wpAny_mono q1 (fun _ a2 q2 => wpAny_bind (wpAny_mono q2 (fun _ a3 q3 => wpAny_bind (wpAny_mono q3 (fun yes a4 q4 => ?_) fun _ _ z => z)) fun _ _ z => z)) fun _ _ z => z)
    cases yes with
    | false => exact wpAny_pure ⟨rfl, q4⟩
    | true =>
      refine wpAny_bind (wpAny_mono q4 (fun x a5 q5 => wpAny_bind (wpAny_standAt (wpAny_bind (wpAny_of_eq (hs x) (wpAny_bind (wpAny_holding (wpAny_mono q5 (fun i2 a6 q6 => ?_) fun _ _ z => z))))))) fun _ _ z => z)
      refine wpAny_bind (wpAny_runOwn ?_)
      rw [Around.mark_none]
      refine codeAny_mono q6 fun r b hr => ?_
      cases r with
      | ok f =>
        first
          | exact wpAny_pure ⟨rfl, hr⟩
          | exact wpAny_bind (wpAny_pure (wpAny_pure ⟨rfl, hr⟩))
      | error e => exact hr.elim
/-- the second clause's loop -/
theorem loopS1 (J : Nat → Shared → Prop)
    (turn : ∀ n s, J n s → wpAny (model P w) A (pyNext it) (fun r a1 => match r with
      | none => R (.ok .next) a1
      | some z => wpAny (model P w) A (letOwnedTupleGo g1 it z) (fun _ a2 => wpAny (model P w) A (assign g1 en z) (fun _ a3 => wpAny (model P w) A (testsS js1 en) (fun yes a4 =>
            if yes = true then wpAny (model P w) A (eval el en) (fun x a5 => wpAny (model P w) A (call (.builtin "set.add") [ac, x]) (fun _ a6 => ∃ m, m < n ∧ J m a6) (badS (model P w) A en R) a5) (badS (model P w) A en R) a4
            else ∃ m, m < n ∧ J m a4) (badS (model P w) A en R) a3) (badS (model P w) A en R) a2) (badS (model P w) A en R) a1) (badS (model P w) A en R) s)
    (n : Nat) (h : J n s) : codeAny (model P w) A (.compLoop (sC2 el g0 u0 g1 u1 js0 js1 sc ps) 1 it ac en) R s := by
  refine codeAny_loop rfl J (fun n s hJ => ?_) n h
  show wpAny _ A ((compTurn (sC2 el g0 u0 g1 u1 js0 js1 sc ps) 1 it ac en).onRaise (fun x => do noteFrame x en; theTreesLotGoes x)) _ _ s
  refine wpAny_noted ?_
  rw [turnS1]
  refine wpAny_bind (wpAny_standAt (wpAny_bind (wpAny_mono (turn n s hJ) (fun r a1 q1 => ?_) fun _ _ z => z)))
  cases r with
  | none => exact wpAny_pure q1
  | some z =>
    refine wpAny_bind (wpAny_mono q1 (fun _ a2 q2 => wpAny_bind (wpAny_mono q2 (fun _ a3 q3 => wpAny_bind (wpAny_mono q3 (fun yes a4 q4 => ?_) fun _ _ z => z)) fun _ _ z => z)) fun _ _ z => z)
    cases yes with
    | false => exact wpAny_pure ⟨rfl, q4⟩
    | true => exact wpAny_bind (wpAny_bind (wpAny_mono q4 (fun x a5 q5 => wpAny_bind (wpAny_standAt (wpAny_bind (wpAny_mono q5 (fun _ a6 q6 => wpAny_pure (wpAny_pure ⟨rfl, q6⟩)) fun _ _ z => z)))) fun _ _ z => z))
theorem startS1 (h0 : codeAny (model P w) A (.compLoop (sC2 el g0 u0 g1 u1 js0 js1 sc ps) 1 it ac en) R s)
    (h : wpAny (model P w) A (pyIter it) (fun i2 b => codeAny (model P w) A (.compLoop (sC2 el g0 u0 g1 u1 js0 js1 sc ps) 1 i2 ac en) R b) (notedBy (model P w) A en fun x b => R (.error x) b) s) :
    codeAny (model P w) A (.compStart (sC2 el g0 u0 g1 u1 js0 js1 sc ps) 1 it ac en) R s := by
  refine codeAny_of_tree ?_
  show wpAny _ _ ((compStart (sC2 el g0 u0 g1 u1 js0 js1 sc ps) 1 it ac en).onRaise (fun x => do noteFrame x en; standAt theWindowsPlace)) _ _ s
  refine wpAny_notedAt ?_
  unfold compStart
  show wpAny _ _ (ask >>= _) _ _ s
  refine wpAny_bind (wpAny_askSetting (wpAny_ite ?_))
  split
  · first | exact wpAny_bind (wpAny_pure (wpAny_pure (And.intro rfl h0))) | exact wpAny_pure (And.intro rfl h0)
  · first
      | exact wpAny_bind (wpAny_rule (wpAny_bind (wpAny_standAt (wpAny_bind (wpAny_mono h (fun _ _ q => wpAny_pure (And.intro rfl q)) fun _ _ x => x)))))
      | (refine wpAny_bind (wpAny_rule ?_); show wpAny _ _ (standAt u1.pos >>= _) _ _ s; exact wpAny_bind (wpAny_standAt (wpAny_bind (wpAny_mono h (fun _ _ q => wpAny_pure (And.intro rfl q)) fun _ _ x => x))))
end
theorem addM_ok {X : Cx} {pins : List (Addr × Obj)} {σ : L2.St} {H : Hp} {s : Shared} {E : Value → Shared → Prop} {D : Addr} {ks : List Key} {k : Key} {u : Value} {Q : Value → Shared → Prop} (I : Inv X pins σ H s) (hD : H D = some (SetM X.prog X.w D ks)) (hk : (mixKind X.prog X.w).is k u = true) (sn : u.scannable = true)
    (room : ks.length + 1 < scanBound) (h : ∀ b ls, ls.Nodup → (∀ x, x ∈ ls ↔ x = k ∨ x ∈ ks) → ls.length ≤ ks.length + 1 → Inv X pins σ (upd H D (SetM X.prog X.w D ls)) b → Q .none b) : wpAny (model X.prog X.w) X.A (call (.builtin "set.add") [.ref D, u]) Q E s := by
  have G := setM_get I hD
  have hT : s.TypeIs (.ref D) "set" := by
    obtain ⟨o, es, ep, t, ho, hex, _⟩ := G
    exact ⟨o, ho, hex.1⟩
  refine wpAny_call_entry F.slot_set_add hT F.entry_set_add ?_ (F.args_set_add_2 _ _)
  unfold Builtin.«set.add» Builtin.Frozenset.oneOther
  simp only [List.isEmpty_nil, bind_assoc]
  unfold Builtin.Frozenset.addrOf setAdd
  refine wpAny_bind (wpAny_pure ?_)
  try dsimp only
  refine wpAny_bind (wpAny_pure ?_)
  try dsimp only
  refine wpAny_bind (wpAny_holding (wpAny_bind ((mixKind X.prog X.w).pyHash hk ?_)))
  refine setG_put (s := { s with toks := s.toks + 1 }) G hk sn room fun h' ls sb G2 hp => ?_
  refine wpAny_pure ⟨_, rfl, h _ ls (setG_nodup G2) (fun x => ?_) ?_ (I.write (e := D) (t' := s.toks + 1) (by rw [hD]; trivial) (.inl rfl) (fun b o hb ho => (sb.2 b hb).trans ho) ?_ (setM_new G2))⟩
  · by_cases q : k ∈ ks
    · rw [if_pos q] at hp; rw [hp]
      exact ⟨.inr, fun z => z.elim (fun z => z ▸ q) id⟩
    · rw [if_neg q] at hp; rw [hp.mem_iff, List.mem_cons]
  · by_cases q : k ∈ ks
    · rw [if_pos q] at hp; rw [hp]; omega
    · rw [if_neg q] at hp; rw [hp.length_eq, List.length_cons]; exact Nat.le_refl _
  · obtain ⟨o, es, ep, t, ho, _⟩ := G2
    exact ⟨o, ho⟩
end Wc
namespace Wc
open PySem PySem.Spec PyProof.Rows L2 PpSet
abbrev setRaw (w : World) : Obj := { cls := .type "set", dict := none, data := .set #[] 0 (.fresh 0 0 (!w.params.followText "set-order")) }
section
variable {X : Cx}
/-- what the set comprehension owes: D the new set -/
def tSc2 (P : Program) (w : World) (wi : TI) (g : TG) (tt : TT) (wi1 : TI) (g1 : TG) (tt1 : TT) (te : TE) (vs vs1 : List Nat) : TE := fun σ H Q => wi σ H fun J H1 => ∀ D, H1 D = none → ∃ W : Nat → Nat → Hp → Prop, (∃ m, W 0 m (upd H1 D (SetM P w D []))) ∧ ∀ i m H, W i m H →
  (J.stop i H ∧ Q (.ref D) H) ∨ (J.go i H ∧ ∃ N0 : Hp → Prop, (∀ H', N0 H' → ∃ m', m' < m ∧ W (i + 1) m' H') ∧ ∀ x H', J.yld i H x H' → g x (wipe σ vs) H' fun σ2 H2 => wipe σ2 vs = wipe σ vs ∧ tt σ2 H2 fun b H3 =>
    if b = true then wi1 σ2 H3 fun J1 H4 => ∃ W1 : Nat → Nat → Hp → Prop, (∃ m, W1 0 m H4) ∧ ∀ j k H, W1 j k H →
      (J1.stop j H ∧ N0 H) ∨ (J1.go j H ∧ ∃ N1 : Hp → Prop, (∀ H', N1 H' → ∃ k', k' < k ∧ W1 (j + 1) k' H') ∧ ∀ x H', J1.yld j H x H' → g1 x (wipe σ2 vs1) H' fun σ3 H5 => wipe σ3 vs1 = wipe σ2 vs1 ∧ tt1 σ3 H5 fun b H6 =>
        if b = true then te σ3 H6 fun y H7 => ∃ (k : Key) (ks : List Key), y = kV k ∧ H7 D = some (SetM P w D ks) ∧ ks.length + 1 < scanBound ∧ ∀ ls : List Key, ls.Nodup → (∀ x, x ∈ ls ↔ x = k ∨ x ∈ ks) → ls.length ≤ ks.length + 1 → N1 (upd H7 D (SetM P w D ls)) else N1 H6)
    else N0 H3)
theorem pe_sc2 {el tg u0 tg1 u1 : Expr} {js js1 : List Expr} {sc : Scope} {own : List (Str × Nat)} {vs1 : List Nat} {ps : Pos} {wi wi1 : TI} {g g1 : TG} {tt tt1 : TT} {te : TE} (hc : X.calm = true) (hN : X.N.Nodup) (hi : PI X tg u0 wi) (ok : BlkOk X.N X.env.scope sc own) (hv : ∀ i ∈ vs1, i ∈ own.map (·.2))
    (hg : ∀ (s : Shared) (H : Hp) (C : Addr) (cl : List (Str × Addr)) (fp : List Addr), PG (X.blk s H sc (compEnvC sc cl C X.env) fp) tg g)
    (ht : ∀ (s : Shared) (H : Hp) (C : Addr) (cl : List (Str × Addr)) (fp : List Addr), PTs (X.blk s H sc (compEnvC sc cl C X.env) fp) js tt)
    (hi1 : ∀ (s : Shared) (H : Hp) (C : Addr) (cl : List (Str × Addr)) (fp : List Addr), PI (X.blk s H sc (compEnvC sc cl C X.env) fp) tg1 u1 wi1)
    (hg1 : ∀ (s : Shared) (H : Hp) (C : Addr) (cl : List (Str × Addr)) (fp : List Addr), PG (X.blk s H sc (compEnvC sc cl C X.env) fp) tg1 g1)
    (ht1 : ∀ (s : Shared) (H : Hp) (C : Addr) (cl : List (Str × Addr)) (fp : List Addr), PTs (X.blk s H sc (compEnvC sc cl C X.env) fp) js1 tt1)
    (he : ∀ (s : Shared) (H : Hp) (C : Addr) (cl : List (Str × Addr)) (fp : List Addr), PE (X.blk s H sc (compEnvC sc cl C X.env) fp) el te)
    (hs : ∀ x, foldedSetIterable u0 X.env x = pure x := by intro _; rfl) (hs1 : ∀ en x, foldedSetIterable u1 en x = pure x := by intro _ _; rfl) : PE X (sC2 el tg u0 tg1 u1 js js1 sc ps) (tSc2 X.prog X.w wi g tt wi1 g1 tt1 te (own.map (·.2)) vs1) := by
  refine ⟨fun pins s σ H Q I h => ?_⟩
  show wpAny _ _ (comprehension (sC2 el tg u0 tg1 u1 js js1 sc ps) sc X.env (firstIterPos [⟨tg, u0, js, 0⟩, ⟨tg1, u1, js1, 0⟩] ps) (newSet (.type "set")) false (eval u0 X.env)) _ _ _
  have hfr : ∀ y ∈ sc.names, y.2 = .free → ∃ c, X.env.cells.lookup y.1 = some c := fun y hy e => (ok.free y hy e).elim (fun k => I.ok.has _ (.inl k)) fun k => I.ok.has _ (.inr k)
  refine wpAny_comprehension_free (use := none) rfl hs (closure_ok hfr) ok.kind (fun y hy e => by rw [ok.uniq y hy, e]) (thn (hi.run pins s σ H _ I h) fun xv s1 hx => thn hx fun itv s2 h2 => ?_)
  obtain ⟨it, fp, tn, J, H2, e, I2, Tu, st2, f2, q⟩ := h2
  subst e
  refine newSet_ok (newEnv_comp ?_)
  generalize hD : s2.heap.objs.size = D
  have hDn : H2 D = none := I2.hok.fresh (Nat.le_of_eq hD)
  obtain ⟨W, ⟨m0, w0⟩, turn⟩ := q D hDn
  generalize hs3 : ({ s2 with heap := s2.heap.push (setRaw X.w) } : Shared) = s3
  have e3 : s3.heap = s2.heap.push (setRaw X.w) := by rw [← hs3]
  have I3 : Inv X pins σ (upd H2 D (SetM X.prog X.w D [])) s3 := by
    rw [← hs3]
    refine I2.laid (t' := s2.toks) (fun b o e => Heap.get?_push_of_some _ e) (Nat.le_of_eq hD) (setM_new (setG_new ?_))
    rw [← hD]
    exact Heap.get?_push_size _ rfl
  have f3 : ∀ b ∈ fp, FpOk X pins (upd H2 D (SetM X.prog X.w D [])) b ∧ b < s3.heap.objs.size := fun b hb => by
    have hlt : b < s2.heap.objs.size := by
      obtain ⟨o, e, _⟩ := Tu.obj _ _ st2 b hb
      exact Heap.lt_size e
    exact ⟨⟨by rw [upd_ne (by rw [← hD]; exact Nat.ne_of_lt hlt)]; exact (f2 b hb).1, (f2 b hb).2⟩, by rw [e3, Heap.size_push]; exact Nat.lt_succ_of_lt hlt⟩
  have st3 : tn 0 s3.heap := Tu.keep _ _ _ st2 fun b _ o e => by rw [e3]; exact Heap.get?_push_of_some _ e
  have I4 := block_start I3 ok hN f3
  have kg := hg s3 (upd H2 D (SetM X.prog X.w D [])) s3.heap.objs.size (cellsFrom (s3.heap.objs.size + 1) sc.names (cloFrom X.env.cells sc.names [])) fp
  have kt := ht s3 (upd H2 D (SetM X.prog X.w D [])) s3.heap.objs.size (cellsFrom (s3.heap.objs.size + 1) sc.names (cloFrom X.env.cells sc.names [])) fp
  have ke := he s3 (upd H2 D (SetM X.prog X.w D [])) s3.heap.objs.size (cellsFrom (s3.heap.objs.size + 1) sc.names (cloFrom X.env.cells sc.names [])) fp
  have ki1 := hi1 s3 (upd H2 D (SetM X.prog X.w D [])) s3.heap.objs.size (cellsFrom (s3.heap.objs.size + 1) sc.names (cloFrom X.env.cells sc.names [])) fp
  have kg1 := hg1 s3 (upd H2 D (SetM X.prog X.w D [])) s3.heap.objs.size (cellsFrom (s3.heap.objs.size + 1) sc.names (cloFrom X.env.cells sc.names [])) fp
  have kt1 := ht1 s3 (upd H2 D (SetM X.prog X.w D [])) s3.heap.objs.size (cellsFrom (s3.heap.objs.size + 1) sc.names (cloFrom X.env.cells sc.names [])) fp
  show codeAny _ _ (.compStart (sC2 el tg u0 tg1 u1 js js1 sc ps) 0 (.ref it) (.ref D) (compEnvC sc (cellsFrom (s3.heap.objs.size + 1) sc.names (cloFrom X.env.cells sc.names [])) s3.heap.objs.size X.env)) (compPost (model X.prog X.w) X.A X.xe none (EP X pins σ Q) (.ref D) s3.heap.objs.size) { s3 with heap := pushCells (s3.heap.push { cls := .type "dict", data := .dict #[] }) sc.names }
  have nfp : ∀ b ∈ fp, (upd H2 D (SetM X.prog X.w D [])) b = none := fun b hb => (f3 b hb).1.1
  generalize hce : compEnvC sc (cellsFrom (s3.heap.objs.size + 1) sc.names (cloFrom X.env.cells sc.names [])) s3.heap.objs.size X.env = ce at I4 kg kt ke ki1 kg1 kt1 ⊢
  have cL : ce.locals = s3.heap.objs.size := by subst hce; rfl
  generalize hH3 : upd H2 D (SetM X.prog X.w D []) = H3 at I3 I4 kg kt ke ki1 kg1 kt1 w0 nfp f3
  generalize hs4 : ({ s3 with heap := pushCells (s3.heap.push { cls := .type "dict", data := .dict #[] }) sc.names } : Shared) = s4 at I4 ⊢
  have st4 : tn 0 s4.heap := Tu.keep _ _ _ st3 fun b _ o e => by rw [← hs4]; exact pushCells_keeps _ _ _ _ (Heap.get?_push_of_some _ e)
  have stat : ∀ {σ' : L2.St} {H' : Hp} {b : Shared}, Inv (X.blk s3 H3 sc ce fp) [] σ' H' b → (∀ b ∈ fp, H' b = none) → ∀ b ∈ fp, FpOk (X.blk s3 H3 sc ce fp) [] H' b := fun {σ' H' b} I' hn b hb =>
    ⟨hn b hb, (I'.ok.exf b hb).1, I'.ok.exfs b hb, .inl hb, fun x c e => (I'.ok.exf b hb).2 x c e, fun p hp => absurd (show p ∈ ([] : List (Addr × Obj)) ++ [] from hp) (by simp)⟩
  have lp : codeAny (model X.prog X.w) X.A (.compLoop (sC2 el tg u0 tg1 u1 js js1 sc ps) 0 (.ref it) (.ref D) ce) (compPost (model X.prog X.w) X.A X.xe none (EP X pins σ Q) (.ref D) s3.heap.objs.size) s4 := by
    refine loopS0 (hs1 ce) (fun n b => ∃ i H', Inv (X.blk s3 H3 sc ce fp) [] (wipe σ (own.map (·.2))) H' b ∧ tn i b.heap ∧ (∀ b ∈ fp, H' b = none) ∧ W i n H') ?_ m0 ⟨0, H3, I4, st4, nfp, w0⟩
    rintro n s5 ⟨i, H5, I5, st5, n5, w5⟩
    rcases turn i n H5 w5 with ⟨stop, qq⟩ | ⟨go, N0, hN0, step⟩
    · refine thnF (Tu.done (X.blk s3 H3 sc ce fp) rfl rfl rfl hc i [] s5 _ H5 (fun _ _ => False) I5 (stat I5 n5) st5 stop) fun r s6 ⟨hr, I6⟩ => ?_
      subst hr
      have I7 : Inv X pins σ H5 s6 := I3.call' (ch := fp) I6.os I6.base I6.hok I6.bare fun b hb => ⟨(f3 b hb).1.2.2.2.1, (f3 b hb).1.2.1, (f3 b hb).1.2.2.2.2.1, (f3 b hb).1.2.2.2.2.2⟩
      have nC : H5 s3.heap.objs.size = none := by rw [← cL]; exact I6.free
      obtain ⟨m, hn, _⟩ := I6.loc
      have hn : s6.heap.Ns ce.locals m := hn
      rw [cL] at hn
      obtain ⟨y0, y1, y2, y3, y4, y5⟩ := I3.fpOk (b := s3.heap.objs.size) (Nat.le_refl _) nC
      exact ⟨m, hn, fun h'' sb => ⟨.ref D, H5, I7.turned (t' := s6.toks) (fun b o hb e => (sb.2 b hb).trans e) y0 y1 y3 y4 y5, rfl, qq⟩⟩
    · refine thnF (Tu.item (X.blk s3 H3 sc ce fp) rfl rfl rfl hc i [] s5 _ H5 (fun _ _ => False) I5 (stat I5 n5) st5 go) fun r s6 ⟨u, hr, h6⟩ => ?_
      subst hr
      refine thnF h6 fun _ s7 ⟨x, H7, I7, r7, y7, st7, n7⟩ => ?_
      refine thnF (kg.run _ s7 _ H7 x u _ (I7.pinned (stat I7 n7) (Tu.obj _ _ st7)) r7 (step x H7 y7)) fun _ s8 ⟨σ8, H8, I8, hw8, q8⟩ => ?_
      refine thnF (kt.run _ s8 σ8 H8 _ I8 q8) fun b s9 ⟨H9, I9, q9⟩ => ?_
      have fin : ∀ {σ9 : L2.St} {b : Shared} {H' : Hp}, Inv (X.blk s3 H3 sc ce fp) ([] ++ pinsAt fp s7.heap) σ9 H' b → (wipe σ (own.map (·.2))).length = σ9.length → (∀ (j : Nat) v, (wipe σ (own.map (·.2)))[j]? = some (some v) → σ9[j]? = some (some v)) → N0 H' →
          ∃ m, m < n ∧ ∃ i H', Inv (X.blk s3 H3 sc ce fp) [] (wipe σ (own.map (·.2))) H' b ∧ tn i b.heap ∧ (∀ b ∈ fp, H' b = none) ∧ W i m H' := fun {σ9 b H'} I' hl hk nx => by
        obtain ⟨m', hm, w'⟩ := hN0 H' nx
        have pin' : ∀ c ∈ fp, ∀ o, s7.heap.get? c = some o → b.heap.get? c = some o ∧ H' c = none := fun c hb o e =>
          let z := I'.pin (c, o) (List.mem_append_right _ (List.mem_append_right _ (mem_pinsAt hb e)))
          ⟨z.1, z.2.1⟩
        refine ⟨m', hm, i + 1, H', (I'.unpinned (pins := [])).weak hl hk, Tu.keep _ _ _ st7 fun b hb o e => (pin' b hb o e).1, fun c hb => ?_, w'⟩
        obtain ⟨o, e, _⟩ := Tu.obj _ _ st7 c hb
        exact (pin' c hb o e).2
      have hl8 : (wipe σ (own.map (·.2))).length = σ8.length := by rw [← hw8, wipe_length]
      have hk8 : ∀ (j : Nat) v, (wipe σ (own.map (·.2)))[j]? = some (some v) → σ8[j]? = some (some v) := fun j v e => by rw [← hw8] at e; exact (wipe_some e).1
      have hk9 : ∀ (j : Nat) v, (wipe σ (own.map (·.2)))[j]? = some (some v) → (wipe σ8 vs1)[j]? = some (some v) := fun j v e => by
        rw [← hw8] at e
        obtain ⟨z1, z2⟩ := wipe_some e
        exact (L2.wipe_out fun z => z2 (hv j z)).trans z1
      cases b with
      | false =>
        simp only [Bool.false_eq_true, if_false] at q9 ⊢
        exact fin I9 hl8 hk8 q9
      | true =>
        simp only [if_true] at q9 ⊢
        refine thnF (ki1.run _ s9 σ8 H9 _ I9 q9) fun xv sa hx => thnF hx fun itv sb hb => ?_
        obtain ⟨it1, fp1, tn1, J1, Hb, e1, Ib, Tv, stb, fb, W1, ⟨m1, w1⟩, turn1⟩ := hb
        subst e1
        have stat1 : ∀ {H' : Hp}, (∀ b ∈ fp1, H' b = none) → ∀ b ∈ fp1, FpOk (X.blk s3 H3 sc ce fp) ([] ++ pinsAt fp s7.heap) H' b := fun hn b hb => ⟨hn b hb, (fb b hb).2⟩
        have lp1 : codeAny (model X.prog X.w) X.A (.compLoop (sC2 el tg u0 tg1 u1 js js1 sc ps) 1 (.ref it1) (.ref D) ce)
            (fun r b => match r with
              | .ok _ => ∃ m, m < n ∧ ∃ i H', Inv (X.blk s3 H3 sc ce fp) [] (wipe σ (own.map (·.2))) H' b ∧ tn i b.heap ∧ (∀ b ∈ fp, H' b = none) ∧ W i m H'
              | .error _ => False) sb := by
          refine loopS1 (fun k b => ∃ j H', Inv (X.blk s3 H3 sc ce fp) ([] ++ pinsAt fp s7.heap) (wipe σ8 vs1) H' b ∧ tn1 j b.heap ∧ (∀ b ∈ fp1, H' b = none) ∧ W1 j k H') ?_ m1 ⟨0, Hb, Ib.weak (wipe_length _ _) (fun j v e => (wipe_some e).1), stb, fun b hb => (fb b hb).1, w1⟩
          rintro k sc2 ⟨j, Hc, Ic, stc, nc, wc⟩
          rcases turn1 j k Hc wc with ⟨stop1, nx1⟩ | ⟨go1, N1, hN1, step1⟩
          · refine thnF (Tv.done (X.blk s3 H3 sc ce fp) rfl rfl rfl hc j _ sc2 (wipe σ8 vs1) Hc (fun _ _ => False) Ic (stat1 nc) stc stop1) fun r sd ⟨hr, Id⟩ => ?_
            subst hr
            exact fin Id (hl8.trans (wipe_length σ8 vs1).symm) hk9 nx1
          · refine thnF (Tv.item (X.blk s3 H3 sc ce fp) rfl rfl rfl hc j _ sc2 (wipe σ8 vs1) Hc (fun _ _ => False) Ic (stat1 nc) stc go1) fun r sd ⟨v1, hr, hd⟩ => ?_
            subst hr
            refine thnF hd fun _ se ⟨x1, He, Ie, re, ye, ste, ne⟩ => ?_
            refine thnF (kg1.run _ se (wipe σ8 vs1) He x1 v1 _ (Ie.pinned (stat1 ne) (Tv.obj _ _ ste)) re (step1 x1 He ye)) fun _ sf ⟨σf, Hf, If, hwf, qf⟩ => ?_
            refine thnF (kt1.run _ sf σf Hf _ If qf) fun b1 sg ⟨Hg, Ig, qg⟩ => ?_
            have fin1 : ∀ {b : Shared} {H' : Hp}, Inv (X.blk s3 H3 sc ce fp) (([] ++ pinsAt fp s7.heap) ++ pinsAt fp1 se.heap) σf H' b → N1 H' → ∃ m, m < k ∧ ∃ j H', Inv (X.blk s3 H3 sc ce fp) ([] ++ pinsAt fp s7.heap) (wipe σ8 vs1) H' b ∧ tn1 j b.heap ∧ (∀ b ∈ fp1, H' b = none) ∧ W1 j m H' := fun {b H'} I' nx => by
              obtain ⟨m', hm, w'⟩ := hN1 H' nx
              have pin' : ∀ c ∈ fp1, ∀ o, se.heap.get? c = some o → b.heap.get? c = some o ∧ H' c = none := fun c hb o e =>
                let z := I'.pin (c, o) (List.mem_append_right _ (List.mem_append_right _ (mem_pinsAt hb e)))
                ⟨z.1, z.2.1⟩
              refine ⟨m', hm, j + 1, H', I'.unpinned.weak (by rw [← hwf, wipe_length]) (fun j v e => by rw [← hwf] at e; exact (wipe_some e).1), Tv.keep _ _ _ ste fun b hb o e => (pin' b hb o e).1, fun c hb => ?_, w'⟩
              obtain ⟨o, e, _⟩ := Tv.obj _ _ ste c hb
              exact (pin' c hb o e).2
            cases b1 with
            | false =>
              simp only [Bool.false_eq_true, if_false] at qg ⊢
              exact fin1 Ig qg
            | true =>
              simp only [if_true] at qg ⊢
              refine thnF (ke.run _ sg σf Hg _ Ig qg) fun z sh ⟨yv, Hh, Ih, rh, ky, ks, ey, hDh, room, nx⟩ => ?_
              subst ey
              exact addM_ok (X := X.blk s3 H3 sc ce fp) Ih hDh (kV_is rh) (key_scan rh) room fun b ls n1 n2 n3 I' => fin1 I' (nx ls n1 n2 n3)
        exact startS1 lp1 (Tv.self X.A 0 _ _ _ stb lp1)
  exact codeAny_compStart_set lp (Tu.self X.A 0 _ _ _ st4 lp)
end
end Wc
namespace Wc
open PySem PySem.Spec PyProof.Rows L2
section
def Wide15 (m : Nat) : Prop := m = 7 ∨ m = 15 ∨ m = 31 ∨ m = 63
theorem wide_tab7 : ((List.range 8).all fun i => (List.range 8).all fun j => (List.range 8).any fun k => lcgI 7 i k == j) = true := by decide +kernel
theorem wide_tab15 : ((List.range 16).all fun i => (List.range 16).all fun j => (List.range 16).any fun k => lcgI 15 i k == j) = true := by decide +kernel
theorem wide_tab31 : ((List.range 32).all fun i => (List.range 32).all fun j => (List.range 32).any fun k => lcgI 31 i k == j) = true := by decide +kernel
theorem wide_tab63 : ((List.range 64).all fun i => (List.range 64).all fun j => (List.range 64).any fun k => lcgI 63 i k == j) = true := by decide +kernel
theorem wide_meets {m : Nat} (hm : Wide15 m) {i j : Nat} (hi : i ≤ m) (hj : j ≤ m) : ∃ k, k ≤ m ∧ lcgI m i k = j := by
  have key : ((List.range (m + 1)).all fun i => (List.range (m + 1)).all fun j => (List.range (m + 1)).any fun k => lcgI m i k == j) = true := by
    rcases hm with rfl | rfl | rfl | rfl
    · exact wide_tab7
    · exact wide_tab15
    · exact wide_tab31
    · exact wide_tab63
  have h1 := List.all_eq_true.mp key i (List.mem_range.mpr (Nat.lt_succ_of_le hi))
  have h2 := List.all_eq_true.mp h1 j (List.mem_range.mpr (Nat.lt_succ_of_le hj))
  obtain ⟨k, hk, e⟩ := List.any_eq_true.mp h2
  exact ⟨k, Nat.le_of_lt_succ (List.mem_range.mp hk), eq_of_beq e⟩
theorem wide_free {m : Nat} (hm : Wide15 m) (owner : Array (Option Nat)) (h : Int) {j : Nat} (hj : j ≤ m) (hf : oAt owner j = none) :
    ∃ K, SetTable.layClean.free m owner (SetTable.turns m) (SetTable.bits h % (m + 1)) (SetTable.bits h) = some (way m h K) ∧ oAt owner (way m h K) = none := by
  obtain ⟨k, hk, e⟩ := wide_meets hm (runI_le m (SetTable.bits h) 12) hj
  have e12 : runI m (SetTable.bits h) (12 + k) = j := (runI_tail (bits_lt h) k).trans e
  have hw : way m h (off m (SetTable.bits h % (m + 1)) (SetTable.bits h) (12 + k)) = j := by
    show (nth m (runAt m (SetTable.bits h % (m + 1)) (SetTable.bits h)) (off m (SetTable.bits h % (m + 1)) (SetTable.bits h) (12 + k))).j = j
    rw [nth_off, itL_run]
    exact e12
  obtain ⟨K, k1, k2, k3⟩ := st_least (p := fun k => oAt owner (way m h k) = none) (off m (SetTable.bits h % (m + 1)) (SetTable.bits h) (12 + k)) (by
    show oAt owner (way m h (off m (SetTable.bits h % (m + 1)) (SetTable.bits h) (12 + k))) = none
    rw [hw]; exact hf)
  refine ⟨K, free_spec m owner (SetTable.turns m) (12 + k) _ _ K (by unfold SetTable.turns; omega) k1 (fun n hn => ?_) ?_, k2⟩
  · have q := k3 n hn
    show (oAt owner (way m h n)).isNone = false
    cases z : oAt owner (way m h n) with
    | none => exact absurd z q
    | some _ => rfl
  · show (oAt owner (way m h K)).isNone = true
    rw [k2]; rfl
theorem way_in (m : Nat) (h : Int) (K : Nat) (hm : Wide15 m) : way m h K ≤ m := by
  have z : ∀ (K i b : Nat), i ≤ m → (nth m (runAt m i b) K).j ≤ m := by
    intro K
    induction K using Nat.strongRecOn with
    | _ K ih =>
      intro i b hi
      have hr := runEnd_bd hi
      by_cases c : K ≤ SetTable.runEnd m i - i
      · rw [nth_run m i b K c]
        show i + K ≤ m
        omega
      · obtain ⟨K', rfl⟩ : ∃ K', K = SetTable.runEnd m i - i + 1 + K' := ⟨K - (SetTable.runEnd m i - i + 1), by omega⟩
        rw [nth_add, nth_leap]
        exact ih K' (by omega) _ _ (Nat.le_of_lt_succ (Nat.mod_lt _ (Nat.succ_pos m)))
  exact z K _ _ (Nat.le_of_lt_succ (Nat.mod_lt _ (Nat.succ_pos m)))
/-- who sits where, as far as we want it -/
structure Sit (m n : Nat) (owner : Array (Option Nat)) : Prop where
  sz : owner.size = m + 1
  all : ∀ k, k < n → ∃ j, j ≤ m ∧ oAt owner j = some k
  ps : ∃ ps : List Nat, ps.length = n ∧ ∀ j, j ≤ m → oAt owner j ≠ none → j ∈ ps
theorem Sit.init (m : Nat) : Sit m 0 (Array.replicate (m + 1) none) where
  sz := by simp
  all := fun k hk => absurd hk (Nat.not_lt_zero _)
  ps := ⟨[], rfl, fun j hj e => absurd (oAt_init hj) e⟩
theorem Sit.step {m n : Nat} (hm : Wide15 m) {owner : Array (Option Nat)} (W : Sit m n owner) (hl : n ≤ m) (h : Int) :
    ∃ j, SetTable.layClean.free m owner (SetTable.turns m) (SetTable.bits h % (m + 1)) (SetTable.bits h) = some j ∧ Sit m (n + 1) (owner.setIfInBounds j (some n)) := by
  obtain ⟨ps, hps, hin⟩ := W.ps
  obtain ⟨j0, h0, hn0⟩ := st_missing ps (m + 1) (by omega)
  have hj0 : oAt owner j0 = none := by
    cases z : oAt owner j0 with
    | none => rfl
    | some k => exact absurd (hin j0 (Nat.le_of_lt_succ h0) (by rw [z]; exact fun e => nomatch e)) hn0
  obtain ⟨K, e1, e2⟩ := wide_free hm owner h (Nat.le_of_lt_succ h0) hj0
  have hjm := way_in m h K hm
  generalize way m h K = j at e1 e2 hjm
  have hself := oAt_set_self (owner := owner) (j := j) (some n) (by rw [W.sz]; exact Nat.lt_succ_of_le hjm)
  refine ⟨j, e1, by rw [Array.size_setIfInBounds]; exact W.sz, fun k hk => ?_, j :: ps, by rw [List.length_cons, hps], fun i hi e => ?_⟩
  · by_cases c : k < n
    · obtain ⟨i, hi, e⟩ := W.all k c
      refine ⟨i, hi, ?_⟩
      rw [oAt_set_ne _ (fun z => by rw [z, e2] at e; cases e)]
      exact e
    · obtain rfl : k = n := by omega
      exact ⟨j, hjm, hself⟩
  · by_cases c : i = j
    · rw [c]; exact List.mem_cons_self
    · rw [oAt_set_ne _ c] at e
      exact List.mem_cons_of_mem _ (hin i hi e)
theorem sit_fold {m : Nat} (hm : Wide15 m) : ∀ (l : List Int) (n : Nat) (owner : Array (Option Nat)), Sit m n owner → n + l.length ≤ m → ∃ owner', l.foldl (stepF m) (some (owner, n)) = some (owner', n + l.length) ∧ Sit m (n + l.length) owner'
  | [], n, owner, W, _ => ⟨owner, rfl, W⟩
  | h :: l, n, owner, W, hl => by
    rw [List.length_cons] at hl
    obtain ⟨j, e, W'⟩ := W.step hm (by omega) h
    obtain ⟨o', f, W2⟩ := sit_fold hm l (n + 1) _ W' (by omega)
    have ea : n + (h :: l).length = n + 1 + l.length := by rw [List.length_cons]; omega
    rw [ea]
    refine ⟨o', ?_, W2⟩
    rw [List.foldl_cons, stepF_some e]
    exact f
theorem sit_lay {m : Nat} (hm : Wide15 m) {hs : Array Int} (hn : hs.size ≤ m) : ∃ owner, SetTable.layClean m hs = some owner ∧ Sit m hs.size owner := by
  obtain ⟨owner, f, W⟩ := sit_fold hm hs.toList 0 _ (Sit.init m) (by rw [Array.length_toList]; omega)
  rw [Nat.zero_add, Array.length_toList] at f W
  refine ⟨owner, ?_, W⟩
  rw [layClean_eq, f]; rfl
/-- a table laid anew: it stands, its order is a rearrangement, and it fits -/
theorem laid_wide {hs : Array Int} {m fi mv : Nat} {led pl : Bool} (hm : Wide15 m) (hn : hs.size ≤ m) :
    ∃ t' order, SetTable.laid m fi mv led pl hs = some (t', order) ∧ order.toList.Perm (List.range hs.size) ∧ t'.place.size = hs.size ∧ t'.dummies = #[] ∧ t'.mask = m ∧ t'.led = led ∧ Ris t'.place.toList := by
  obtain ⟨owner, e, W⟩ := sit_lay hm hn
  have hr : SetTable.laid m fi mv led pl hs = some ({ mask := m, place := ((liveOf m owner).map (·.1)).toArray, dummies := #[], finger := fi, led := led, moves := mv, plain := pl }, ((liveOf m owner).map (·.2)).toArray) := by
    show (SetTable.layClean m hs).bind _ = _
    rw [e]; rfl
  have r1 : Ris ((liveOf m owner).map (·.1)) := (ris_live (fun j => owner.getD j none) (List.range (m + 1)) (by
    unfold Ris
    first | exact List.pairwise_lt_range | exact List.pairwise_lt_range _)).1
  have nd : ((liveOf m owner).map (·.1)).Nodup := List.Pairwise.imp (fun h => Nat.ne_of_lt h) r1
  have hlen : (liveOf m owner).length = hs.size := by
    obtain ⟨ps, p1, p2⟩ := W.ps
    have a := nat_nodup_len ((liveOf m owner).map (·.1)) ps nd fun x hx => by
      obtain ⟨⟨y, k⟩, hq, rfl⟩ := List.mem_map.mp hx
      obtain ⟨b1, b2⟩ := (mem_live W.sz).1 hq
      exact p2 y b1 (by rw [b2]; exact fun z => nomatch z)
    have b := nat_nodup_len (List.range hs.size) ((liveOf m owner).map (·.2)) List.nodup_range fun k hk => by
      obtain ⟨j, b1, b2⟩ := W.all k (List.mem_range.mp hk)
      exact List.mem_map.mpr ⟨(j, k), (mem_live W.sz).2 ⟨b1, b2⟩, rfl⟩
    rw [List.length_map, p1] at a
    rw [List.length_map, List.length_range] at b
    omega
  refine ⟨_, _, hr, perm_range hs.size _ ?_ fun k hk => ?_, ?_, rfl, rfl, rfl, r1⟩
  · show ((liveOf m owner).map (·.2)).length = hs.size
    rw [List.length_map]; exact hlen
  · obtain ⟨j, b1, b2⟩ := W.all k hk
    exact List.mem_map.mpr ⟨(j, k), (mem_live W.sz).2 ⟨b1, b2⟩, rfl⟩
  · show ((liveOf m owner).map (·.1)).toArray.size = hs.size
    rw [List.size_toArray, List.length_map]; exact hlen
theorem relaid_wide (t : SetTable) {hs : Array Int} {wanted m : Nat} (hw : SetTable.sizeAbove wanted - 1 = m) (hm : Wide15 m) (hn : hs.size ≤ m) :
    ∃ t' order, t.relaid hs wanted = some (t', order) ∧ order.toList.Perm (List.range hs.size) ∧ t'.place.size = hs.size ∧ t'.dummies = #[] ∧ t'.mask = m := by
  subst hw
  obtain ⟨t', order, a, b, c, d, e, _, _⟩ := laid_wide (fi := t.finger) (mv := t.movedTo (SetTable.sizeAbove wanted - 1)) (led := t.led) (pl := t.plain) hm hn
  exact ⟨t', order, a, b, c, d, e⟩
end
section
variable {P : Program} {w : World} {κ : Type} [DecidableEq κ] {kd : KeyKind P w κ} {A : Around} {E : Value → Shared → Prop} {s : Shared} {a : Addr} {ks : List κ}
/-- setRelay -/
theorem setG_relay {wanted m : Nat} {Q : Unit → Shared → Prop} (R : SetG kd s.heap a ks) (hw : SetTable.sizeAbove wanted - 1 = m) (hm : Wide15 m) (hn : ks.length ≤ m) (hw2 : SetTable.sizeAbove wanted ≤ 128)
    (hQ : ∀ h' ls, Heap.SameBut a s.heap h' → SetG kd h' a ls → ls.Perm ks → Q () { s with heap := h' }) : wpAny (model P w) A (setRelay a wanted) Q E s := by
  obtain ⟨ob, xs, ep, tb, gO, xO, dO, en, nd, sz, ft, rs, ld⟩ := R
  have hl := en.len
  rw [Array.length_toList] at hl
  obtain ⟨t', order, e, hp, e2, e3, e4⟩ := relaid_wide tb (hs := xs.map (·.1)) (wanted := wanted) hw hm (by rw [Array.size_map, hl]; exact hn)
  rw [Array.size_map] at hp e2
  have hr : (order.filterMap (xs[·]?)).toList.Perm xs.toList := by
    rw [Array.toList_filterMap]
    exact (hp.filterMap _).trans (by rw [filterMap_getElem?_range])
  have hs2 : (order.filterMap (xs[·]?)).size = xs.size := by
    have := hr.length_eq
    rw [Array.length_toList, Array.length_toList] at this
    exact this
  obtain ⟨r1, r2⟩ := relaid_ris e
  rw [setRelay_eq]
  refine wpAny_bind (wpAny_setState_of gO dO ft ?_)
  dsimp only
  refine wp_if_neg (by rw [sizeLine_eq]; omega) ?_
  try refine wpAny_bind (wpAny_pure ?_)
  rw [e]
  dsimp only
  refine wpAny_bind ?_
  refine wp_if_neg (by rw [hs2]; simp) ?_
  try refine wpAny_bind (wpAny_pure ?_)
  refine wpAny_pure ?_
  dsimp only
  refine wpAny_storeSet_of gO dO ?_ (by rw [hs2]; exact fits_of_scanBound sz)
  obtain ⟨ls, q1, q2⟩ := en.perm hr
  refine hQ _ ls (Heap.SameBut.update ..) ⟨_, _, _, _, store_at gO dO, ⟨xO.1, xO.2.1, xO.2.2⟩, rfl, q1, q2.nodup_iff.mpr nd, by rw [hs2]; exact sz, ?_, r1, ld.imp id fun z => by rw [r2]; exact z⟩ q2
  unfold SetTable.fits SetTable.fill
  rw [e3, e4, hs2, e2, Bool.and_eq_true, beq_iff_eq, decide_eq_true_eq]
  refine ⟨rfl, ?_⟩
  show xs.size + 0 ≤ m
  omega
end
end Wc
namespace Wc
open PySem PySem.Spec PyProof.Rows L2
section
variable {P : Program} {w : World} {κ : Type} [DecidableEq κ] {kd : KeyKind P w κ} {A : Around} {E : Value → Shared → Prop} {s : Shared} {a : Addr} {ks : List κ}
theorem walk_any {ob : Obj} {xs : Array (Int × Value)} {ep : Nat} {tb : SetTable} {Q : Array (Int × Value) → Shared → Prop} (gO : s.heap.get? a = some ob) (dO : ob.data = .set xs ep tb) (ft : tb.fits xs.size = true) (ld : w.params.followText "set-order" = true ∨ tb.led = true)
    (hQ : ∀ out d, out.toList.Perm xs.toList → Q out { s with drawn := d }) : wpAny (model P w) A (setWalk a) Q E s := by
  unfold setWalk
  refine wpAny_bind (wpAny_setState_of gO dO ft ?_)
  dsimp only
  refine wpAny_bind (wpAny_byText ?_)
  cases hb : w.params.followText "set-order" with
  | true =>
    refine wp_if_pos rfl ?_
    exact wpAny_bind (wpAny_askSetting (wpAny_pure (hQ _ s.drawn (pick_perm _ _))))
  | false =>
    have hl : tb.led = true := ld.resolve_left (by rw [hb]; exact Bool.false_ne_true)
    refine wp_if_neg Bool.false_ne_true ?_
    try refine wpAny_bind (wpAny_pure ?_)
    cases hdr : (!tb.plain && decide (xs.size > 1)) with
    | true =>
      refine wp_if_pos (show (!tb.plain && decide (xs.size > 1)) = true from hdr) ?_
      refine wpAny_bind (drawOrder_at _ _ _ _ (Nat.le_of_eq (Array.length_toList ..)) fun ys d hp => wpAny_pure (hQ _ d (by simpa using hp)))
    | false =>
      refine wp_if_neg (by show ¬ ((!tb.plain && decide (xs.size > 1)) = true); rw [hdr]; exact Bool.false_ne_true) ?_
      try refine wpAny_bind (wpAny_pure ?_)
      refine wpAny_bind (wpAny_of_eq (a := ()) ?_ (wpAny_pure (hQ _ s.drawn (.refl _))))
      show (if (!tb.led && decide (xs.size > 1)) = true then unsupported "set:maker-not-led" else pure ()) = pure ()
      rw [hl]; rfl
theorem for_still {α β : Type} {M : Model} {f : α → β → Sem (ForInStep β)} {b : β} : ∀ (l : List α) {Q : β → Shared → Prop} {s : Shared}, (∀ x ∈ l, ∀ (R : ForInStep β → Shared → Prop), R (.yield b) s → wpAny M A (f x b) R E s) → Q b s → wpAny M A (forIn l b f) Q E s
  | [], Q, s, _, h => by
    rw [List.forIn_nil]; exact wpAny_pure h
  | x :: l, Q, s, hf, h => by
    rw [List.forIn_cons]
    exact wpAny_bind (hf x List.mem_cons_self _ (for_still l (fun y hy => hf y (List.mem_cons_of_mem _ hy)) h))
theorem for_inv {α : Type} {M : Model} {f : α → PUnit → Sem (ForInStep PUnit)} : ∀ (l : List α) (I : Nat → Shared → Prop) (i : Nat) {Q : PUnit → Shared → Prop} {s : Shared}, I i s → (∀ j x s, l[j]? = some x → I (i + j) s → ∀ (R : ForInStep PUnit → Shared → Prop), (∀ s', I (i + j + 1) s' → R (.yield ⟨⟩) s') → wpAny M A (f x ⟨⟩) R E s) → (∀ s, I (i + l.length) s → Q ⟨⟩ s) → wpAny M A (forIn l ⟨⟩ f) Q E s
  | [], I, i, Q, s, h0, _, hq => by
    rw [List.forIn_nil]; exact wpAny_pure (hq s h0)
  | x :: l, I, i, Q, s, h0, hs, hq => by
    rw [List.forIn_cons]
    refine wpAny_bind (hs 0 x s rfl h0 _ fun s' h1 => ?_)
    refine for_inv l I (i + 1) h1 (fun j y s2 hj h2 R hR => ?_) fun s2 h2 => hq s2 ?_
    · have e : i + 1 + j = i + (j + 1) := by omega
      rw [e] at h2
      refine hs (j + 1) y s2 hj h2 R fun s3 h3 => hR s3 ?_
      rw [e]; exact h3
    · have e : i + 1 + l.length = i + (x :: l).length := by rw [List.length_cons]; omega
      rw [e] at h2; exact h2
theorem Ents.noRef {es : List (Int × Value)} {ks : List κ} (h : Ents kd es ks) : ∀ e ∈ es, ∀ b, e.2 ≠ Value.ref b := by
  induction h with
  | nil => intro e he; cases he
  | @cons e' k es ks a b c _ ih =>
    intro e he b hb
    rcases List.mem_cons.mp he with rfl | q
    · rw [hb] at c; cases c
    · exact ih e q b hb
theorem Ents.at {es : List (Int × Value)} {ks : List κ} (h : Ents kd es ks) : ∀ {j : Nat} {e : Int × Value}, es[j]? = some e → ∃ k, ks[j]? = some k ∧ kd.is k e.2 = true ∧ e.1 = kd.hash k ∧ e.2.scannable = true := by
  induction h with
  | nil => intro j e he; cases he
  | @cons e' k es ks a b c _ ih =>
    intro j e he
    cases j with
    | zero => cases he; exact ⟨k, rfl, a, b, c⟩
    | succ j => exact ih he
theorem quiet_in {xs : Array (Int × Value)} {ks : List κ} (h : Ents kd xs.toList ks) {f : Int × Value → Option Bool × Unit → Sem (ForInStep (Option Bool × Unit))} (hf : ∀ e, (∀ b, e.2 ≠ Value.ref b) → f e (none, ()) = pure (.yield (none, ()))) {Q : Option Bool × Unit → Shared → Prop} (hQ : Q (none, ()) s) :
    wpAny (model P w) A (forIn xs (none, ()) f) Q E s := by
  rw [← Array.forIn_toList]
  refine for_still _ (fun e he R hR => ?_) hQ
  rw [hf e (h.noRef e he)]
  exact wpAny_pure hR
theorem quiet_any {o : Addr} {ob ob2 : Obj} {xs ys : Array (Int × Value)} {ep ep2 : Nat} {tb t2 : SetTable} {k1 k2 : List κ} {Q : Bool → Shared → Prop} (gO : s.heap.get? a = some ob) (dO : ob.data = .set xs ep tb) (ft : tb.fits xs.size = true) (e1 : Ents kd xs.toList k1)
    (gO2 : s.heap.get? o = some ob2) (dO2 : ob2.data = .set ys ep2 t2) (ft2 : t2.fits ys.size = true) (e2 : Ents kd ys.toList k2) (hQ : Q true s) : wpAny (model P w) A (setsQuiet [a, o]) Q E s := by
  unfold setsQuiet
  refine wpAny_bind (for_still [a, o] (fun c hc R hR => ?_) ?_)
  · rcases List.mem_cons.mp hc with rfl | hc
    · unfold setEntries
      refine wpAny_bind (wpAny_bind (wpAny_setState_of gO dO ft (wpAny_pure ?_)))
      refine wpAny_bind (quiet_in e1 (fun e he => ?_) (wpAny_pure hR))
      obtain ⟨n, v⟩ := e
      cases v <;> first | rfl | exact absurd rfl (he _)
    · obtain rfl := List.mem_singleton.mp hc
      unfold setEntries
      refine wpAny_bind (wpAny_bind (wpAny_setState_of gO2 dO2 ft2 (wpAny_pure ?_)))
      refine wpAny_bind (quiet_in e2 (fun e he => ?_) (wpAny_pure hR))
      obtain ⟨n, v⟩ := e
      cases v <;> first | rfl | exact absurd rfl (he _)
  · exact wpAny_pure hQ
theorem fits_flags {tb : SetTable} {n : Nat} {l p : Bool} (h : tb.fits n = true) : ({ tb with led := l, plain := p } : SetTable).fits n = true := h
theorem unseen_any {o : Addr} {k1 k2 : List κ} {ob : Obj} {xs : Array (Int × Value)} {ep : Nat} {tb : SetTable} {Q : Array (Int × Value) → Shared → Prop} (R1 : SetG kd s.heap a k1)
    (gO : s.heap.get? o = some ob) (dO : ob.data = .set xs ep tb) (ft : tb.fits xs.size = true) (en : Ents kd xs.toList k2) (ld : w.params.followText "set-order" = true ∨ tb.led = true) (ne : o ≠ a)
    (hQ : ∀ out h' d, out.toList.Perm xs.toList → Heap.SameBut a s.heap h' → SetG kd h' a k1 → Q out { s with heap := h', drawn := d }) : wpAny (model P w) A (setWalkUnseen o [a] (some a)) Q E s := by
  have wk : wpAny (model P w) A (setWalk o) Q E s := walk_any gO dO ft ld fun out d p => hQ out s.heap d p (Heap.SameBut.refl a s.heap) R1
  unfold setWalkUnseen
  refine wpAny_bind (wpAny_setState_of gO dO ft ?_)
  dsimp only
  refine wpAny_bind (wpAny_byText ?_)
  split
  · first | exact wk | exact wpAny_bind (wpAny_mono wk (fun _ _ q => wpAny_pure q) fun _ _ z => z)
  · rename_i hc
    simp only [Bool.or_eq_true, not_or, Bool.not_eq_true] at hc
    have hl : tb.led = true := ld.resolve_left (by rw [hc.1.1]; exact Bool.false_ne_true)
    obtain ⟨ob2, ys, ep2, t2, gO2, xO2, dO2, en2, nd2, sz2, ft2, rs2, ld2⟩ := R1
    try refine wpAny_bind (wpAny_pure ?_)
    refine wpAny_bind (quiet_any gO dO ft en gO2 dO2 ft2 en2 ?_)
    refine wp_if_neg (by simp) ?_
    try refine wpAny_bind (wpAny_pure ?_)
    refine wpAny_bind (wpAny_rule ?_)
    try dsimp only
    refine wpAny_bind (wpAny_setState_of gO2 dO2 ft2 ?_)
    dsimp only
    split
    · refine wpAny_bind (wpAny_storeSet_of gO2 dO2 ?_ (fits_of_scanBound sz2))
      refine wpAny_pure (hQ xs _ s.drawn (.refl _) (Heap.SameBut.update ..) ⟨_, ys, _, _, store_at gO2 dO2, ⟨xO2.1, xO2.2.1, xO2.2.2⟩, rfl, en2, nd2, sz2, fits_flags ft2, rs2, ?_⟩)
      rcases ld2 with z | z
      · exact .inl z
      · exact .inr (by show (t2.led && tb.led) = true; rw [z, hl]; rfl)
    · try refine wpAny_bind (wpAny_pure ?_)
      exact wpAny_pure (hQ xs s.heap s.drawn (.refl _) (Heap.SameBut.refl a s.heap) ⟨ob2, ys, ep2, t2, gO2, xO2, dO2, en2, nd2, sz2, ft2, rs2, ld2⟩)
theorem room_tab : ((List.range 41).all fun k => (SetTable.sizeAbove k - 1 == 7 || SetTable.sizeAbove k - 1 == 15 || SetTable.sizeAbove k - 1 == 31 || SetTable.sizeAbove k - 1 == 63) && decide (k ≤ SetTable.sizeAbove k - 1) && decide (SetTable.sizeAbove k ≤ 128)) = true := by decide +kernel
theorem room_of {k : Nat} (h : k ≤ 40) : Wide15 (SetTable.sizeAbove k - 1) ∧ k ≤ SetTable.sizeAbove k - 1 ∧ SetTable.sizeAbove k ≤ 128 := by
  have z := List.all_eq_true.mp room_tab k (List.mem_range.mpr (by omega))
  simp only [Bool.and_eq_true, Bool.or_eq_true, beq_iff_eq, decide_eq_true_eq] at z
  refine ⟨?_, z.1.2, z.2⟩
  rcases z.1.1 with ((q | q) | q) | q
  · exact .inl q
  · exact .inr (.inl q)
  · exact .inr (.inr (.inl q))
  · exact .inr (.inr (.inr q))
theorem setG_room {more : Nat} {Q : Unit → Shared → Prop} (R : SetG kd s.heap a ks) (few : ks.length + more ≤ 20)
    (hQ : ∀ h' ls, Heap.SameBut a s.heap h' → SetG kd h' a ls → ls.Perm ks → Q () { s with heap := h' }) : wpAny (model P w) A (setRoomFor a more) Q E s := by
  obtain ⟨ob, xs, ep, tb, gO, xO, dO, en, nd, sz, ft, rs, ld⟩ := R
  have R : SetG kd s.heap a ks := ⟨ob, xs, ep, tb, gO, xO, dO, en, nd, sz, ft, rs, ld⟩
  have hl := en.len
  rw [Array.length_toList] at hl
  have hp : tb.place.size = ks.length := by
    have z := ft
    unfold SetTable.fits at z
    rw [Bool.and_eq_true, beq_iff_eq] at z
    rw [z.1, hl]
  unfold setRoomFor
  refine wpAny_bind (wpAny_setState_of gO dO ft ?_)
  dsimp only
  unfold SetTable.roomFor
  split
  · rename_i wanted hw
    split at hw
    · cases hw
      rw [hp]
      obtain ⟨r1, r2, r3⟩ := room_of (k := (ks.length + more) * 2) (by omega)
      exact setG_relay R rfl r1 (by omega) r3 hQ
    · cases hw
  · exact wpAny_pure (hQ s.heap ks (Heap.SameBut.refl a s.heap) R (.refl _))
/-- the keys of o put into d, which has some already -/
theorem setG_merge {d o : Addr} {each : Sem Unit} {k1 k2 : List κ} {Q : Unit → Shared → Prop} (ne : o ≠ d) (R1 : SetG kd s.heap d k1) (h1 : k1 ≠ []) (R2 : SetG kd s.heap o k2) (few : k1.length + k2.length ≤ 20)
    (hE : ∀ (s' : Shared) (R : Unit → Shared → Prop), s'.heap.get? o = s.heap.get? o → R () s' → wpAny (model P w) A each R E s')
    (hQ : ∀ h' dr ls, Heap.SameBut d s.heap h' → SetG kd h' d ls → (∀ x, x ∈ ls ↔ x ∈ k1 ∨ x ∈ k2) → ls.length ≤ k1.length + k2.length → Q () { s with heap := h', drawn := dr }) : wpAny (model P w) A (setMerge d o each) Q E s := by
  obtain ⟨ob, xs, ep, tb, gO, xO, dO, en, nd, sz, ft, rs, ld⟩ := R2
  have hl := en.len
  rw [Array.length_toList] at hl
  unfold setMerge
  refine wp_if_neg (by simp; exact fun z => ne z.symm) ?_
  try refine wpAny_bind (wpAny_pure ?_)
  refine wpAny_bind (wpAny_setState_of gO dO ft ?_)
  dsimp only
  split
  · rename_i hz
    have z : xs.size = 0 := by simpa using hz
    have hk2 : k2 = [] := List.eq_nil_of_length_eq_zero (by omega)
    subst hk2
    exact wpAny_pure (hQ s.heap s.drawn k1 (Heap.SameBut.refl d s.heap) R1 (fun x => by simp) (by simp))
  · try refine wpAny_bind (wpAny_pure ?_)
    refine wpAny_bind (setG_room R1 (by rw [hl]; exact few) fun ha l1 sb1 G1 p1 => ?_)
    obtain ⟨ob2, ys, ep2, t2, gO2, xO2, dO2, en2, nd2, sz2, ft2, rs2, ld2⟩ := G1
    have G1 : SetG kd ha d l1 := ⟨ob2, ys, ep2, t2, gO2, xO2, dO2, en2, nd2, sz2, ft2, rs2, ld2⟩
    have hl2 := en2.len
    rw [Array.length_toList] at hl2
    refine wpAny_bind (wpAny_setState_of (s := { s with heap := ha }) gO2 dO2 ft2 ?_)
    dsimp only
    have hroad : t2.road tb = .oneByOne := by
      unfold SetTable.road
      refine if_pos ?_
      have z := ft2
      unfold SetTable.fits at z
      rw [Bool.and_eq_true, beq_iff_eq] at z
      have hpos : 0 < k1.length := List.length_pos_iff.mpr h1
      have : 0 < t2.fill := by
        unfold SetTable.fill
        rw [z.1, hl2, p1.length_eq]
        omega
      simp only [bne_iff_ne, ne_eq]
      omega
    rw [hroad]
    dsimp only
    have gOa : ha.get? o = some ob := (sb1.2 o ne).trans gO
    refine wpAny_bind (unseen_any (s := { s with heap := ha }) G1 gOa dO ft en ld ne fun out hb dr po sb2 G2 => ?_)
    obtain ⟨k3, e3, p3⟩ := en.perm po
    have h3 := e3.len
    rw [← Array.forIn_toList]
    refine wpAny_bind (for_inv out.toList (fun i s' => ∃ hc ls, s' = { s with heap := hc, drawn := dr } ∧ Heap.SameBut d s.heap hc ∧ SetG kd hc d ls ∧ (∀ x, x ∈ ls ↔ x ∈ k1 ∨ x ∈ k3.take i) ∧ ls.length ≤ k1.length + i) 0 ⟨hb, l1, rfl, sb1.trans sb2, G2, fun x => by simp [p1.mem_iff], by rw [p1.length_eq]; omega⟩ ?_ ?_)
    · rintro j e s' hj ⟨hc, ls, rfl, sb3, G3, m3, n3⟩ R hR
      rw [Nat.zero_add] at m3 n3 hR
      obtain ⟨k, hk, i1, i2, i3⟩ := e3.at hj
      obtain ⟨hh, v⟩ := e
      dsimp only at i1 i2 i3 ⊢
      subst i2
      have hjl : j < out.toList.length := (List.getElem?_eq_some_iff.mp hj).1
      refine wpAny_bind (wpAny_holding (setG_put (s := { s with heap := hc, drawn := dr }) G3 i1 i3 (by
        have : k2.length = k3.length := p3.length_eq.symm
        show ls.length + 1 < scanBound
        have h4 : (20 : Nat) + 1 < scanBound := by decide
        omega) fun hd l4 sb4 G4 q4 => ?_))
      have sb5 : Heap.SameBut d s.heap hd := sb3.trans sb4
      have gOd : hd.get? o = some ob := (sb5.2 o ne).trans gO
      refine wpAny_bind (hE _ _ (sb5.2 o ne) ?_)
      refine wpAny_bind (wpAny_setState_of (s := { s with heap := hd, drawn := dr }) gOd dO ft ?_)
      dsimp only
      refine wp_if_neg (by simp) ?_
      try refine wpAny_bind (wpAny_pure ?_)
      refine wpAny_pure (hR _ ⟨hd, l4, rfl, sb5, G4, fun x => ?_, ?_⟩)
      · rw [List.take_add_one, hk, List.mem_append]
        simp only [Option.toList, List.mem_singleton]
        rw [← or_assoc, ← m3 x]
        by_cases q : k ∈ ls
        · rw [if_pos q] at q4; rw [q4]
          exact ⟨.inl, fun z => z.elim id fun z => z ▸ q⟩
        · rw [if_neg q] at q4; rw [q4.mem_iff, List.mem_cons]
          exact Or.comm
      · by_cases q : k ∈ ls
        · rw [if_pos q] at q4; rw [q4]; omega
        · rw [if_neg q] at q4; rw [q4.length_eq, List.length_cons]; omega
    · rintro s' ⟨hc, ls, rfl, sb3, G3, m3, n3⟩
      rw [Nat.zero_add, h3, List.take_length] at m3
      rw [Nat.zero_add, h3, p3.length_eq] at n3
      exact wpAny_pure (hQ hc dr ls sb3 G3 (fun x => by rw [m3, p3.mem_iff]) n3)
end
end Wc
namespace Wc
open PySem PySem.Spec PyProof.Rows L2 PpSet
section
variable {P : Program} {w : World} {κ : Type} [DecidableEq κ] {kd : KeyKind P w κ} {A : Around} {E : Value → Shared → Prop} {s : Shared} {ks : List κ}
theorem setG_copy {d o : Addr} {Q : Unit → Shared → Prop} (ne : o ≠ d) (hd : s.heap.get? d = some (setRaw w)) (R : SetG kd s.heap o ks) (h0 : ks ≠ []) (h4 : ks.length ≤ 4)
    (hQ : ∀ h' ls, Heap.SameBut d s.heap h' → SetG kd h' d ls → ls.Perm ks → Q () { s with heap := h' }) : wpAny (model P w) A (setMerge d o) Q E s := by
  obtain ⟨ob, xs, ep, tb, gO, xO, dO, en, nd, sz, ft, rs, ld⟩ := R
  have hl := en.len
  rw [Array.length_toList] at hl
  have hpos : 0 < ks.length := List.length_pos_iff.mpr h0
  have f0 : (SetTable.fresh 0 0 (!w.params.followText "set-order")).fits (#[] : Array (Int × Value)).size = true := rfl
  unfold setMerge
  refine wp_if_neg (by simp; exact fun z => ne z.symm) ?_
  try refine wpAny_bind (wpAny_pure ?_)
  refine wpAny_bind (wpAny_setState_of gO dO ft ?_)
  dsimp only
  refine wp_if_neg (by
    intro z
    have : xs.size = 0 := by simpa using z
    omega) ?_
  try refine wpAny_bind (wpAny_pure ?_)
  refine wpAny_bind ?_
  unfold setRoomFor
  refine wpAny_bind (wpAny_setState_of hd rfl f0 ?_)
  dsimp only
  have hrf : (SetTable.fresh 0 0 (!w.params.followText "set-order")).roomFor xs.size = none := by
    unfold SetTable.roomFor
    refine if_neg ?_
    show ¬ (0 + 0 + xs.size) * 5 ≥ 7 * 3
    omega
  rw [hrf]
  dsimp only
  refine wpAny_pure ?_
  refine wpAny_bind (wpAny_setState_of hd rfl f0 ?_)
  dsimp only
  have hled : w.params.followText "set-order" = true ∨ ((SetTable.fresh 0 0 (!w.params.followText "set-order")).led && tb.led) = true := by
    rcases ld with z | z
    · exact .inl z
    · rw [z]
      show _ ∨ ((!w.params.followText "set-order") && true) = true
      cases w.params.followText "set-order"
      · exact .inr rfl
      · exact .inl rfl
  have hr : (SetTable.fresh 0 0 (!w.params.followText "set-order")).road tb = if 7 == tb.mask && tb.dummies.isEmpty then .slotForSlot else .clean := rfl
  rw [hr]
  cases hc : (7 == tb.mask && tb.dummies.isEmpty) with
  | true =>
    rw [if_pos rfl]
    dsimp only
    refine wpAny_storeSet_of hd rfl ?_ (fits_of_scanBound sz)
    exact hQ _ ks (Heap.SameBut.update ..) ⟨_, xs, _, _, store_at hd rfl, ⟨rfl, rfl, rfl⟩, rfl, en, nd, sz, ft, rs, hled⟩ (.refl _)
  | false =>
    rw [if_neg Bool.false_ne_true]
    dsimp only
    obtain ⟨t', order, e, hp, e2, e3, e4, e5, e6⟩ := laid_wide (hs := xs.map (·.1)) (m := 7) (fi := 0) (mv := 0) (led := (SetTable.fresh 0 0 (!w.params.followText "set-order")).led && tb.led) (pl := true && tb.plain) (.inl rfl) (by rw [Array.size_map, hl]; omega)
    rw [Array.size_map] at hp e2
    have hr2 : (order.filterMap (xs[·]?)).toList.Perm xs.toList := by
      rw [Array.toList_filterMap]
      exact (hp.filterMap _).trans (by rw [filterMap_getElem?_range])
    have hs2 : (order.filterMap (xs[·]?)).size = xs.size := by
      have := hr2.length_eq
      rw [Array.length_toList, Array.length_toList] at this
      exact this
    obtain ⟨ls, q1, q2⟩ := en.perm hr2
    have e : SetTable.laid (SetTable.fresh 0 0 (!w.params.followText "set-order")).mask (SetTable.fresh 0 0 (!w.params.followText "set-order")).finger (SetTable.fresh 0 0 (!w.params.followText "set-order")).moves ((SetTable.fresh 0 0 (!w.params.followText "set-order")).led && tb.led) ((SetTable.fresh 0 0 (!w.params.followText "set-order")).plain && tb.plain) (xs.map (·.1)) = some (t', order) := e
    rw [e]
    refine wpAny_bind (m := (do
      let es' := order.filterMap (xs[·]?)
      if es'.size != xs.size then unsupported "internal:set-table-lost-an-element"
      pure (es', t'))) ?_
    refine wp_if_neg (by rw [hs2]; simp) ?_
    try refine wpAny_bind (wpAny_pure ?_)
    refine wpAny_pure ?_
    dsimp only
    refine wpAny_storeSet_of hd rfl ?_ (by rw [hs2]; exact fits_of_scanBound sz)
    refine hQ _ ls (Heap.SameBut.update ..) ⟨_, _, _, _, store_at hd rfl, ⟨rfl, rfl, rfl⟩, rfl, q1, q2.nodup_iff.mpr nd, by rw [hs2]; exact sz, ?_, e6, by rw [e5]; exact hled⟩ q2
    unfold SetTable.fits SetTable.fill
    rw [e3, e4, hs2, e2, Bool.and_eq_true, beq_iff_eq, decide_eq_true_eq]
    refine ⟨rfl, ?_⟩
    show xs.size + 0 ≤ 7
    omega
theorem anySet_yes {a : Addr} {Q : Bool → Shared → Prop} (hT : s.TypeIs (.ref a) "set") (h : Q true s) : wpAny (model P w) A (Builtin.Frozenset.isAnySet (.ref a)) Q E s := by
  unfold Builtin.Frozenset.isAnySet _root_.orM
  refine wpAny_bind (wpAny_isInstance hT PySem.F.sub_set_set ?_)
  exact wpAny_pure h
theorem entry_set_or : entryFor table "set.__or__" = some Builtin.«frozenset.__or__» :=
  entryFor_alias (id' := "frozenset.__or__") (by kernel_rfl) rfl (by decide +kernel) (by kernel_rfl)
theorem SetG.typeIs {a : Addr} (R : SetG kd s.heap a ks) : s.TypeIs (.ref a) "set" := by
  obtain ⟨ob, xs, ep, tb, gO, xO, _⟩ := R
  exact ⟨ob, gO, xO.1⟩
theorem setG_or {l r : Addr} {k1 k2 : List κ} {Q : Value → Shared → Prop} (R1 : SetG kd s.heap l k1) (R2 : SetG kd s.heap r k2) (h0 : k1 ≠ []) (h4 : k1.length ≤ 4) (few : k1.length + k2.length ≤ 20) (ne : r ≠ l)
    (hQ : ∀ h' dr ls, (∀ b o, s.heap.get? b = some o → h'.get? b = some o) → SetG kd h' s.heap.objs.size ls → (∀ x, x ∈ ls ↔ x ∈ k1 ∨ x ∈ k2) → ls.length ≤ k1.length + k2.length → Q (.ref s.heap.objs.size) { s with heap := h', drawn := dr }) :
    wpAny (model P w) A (binaryOp .BitOr (.ref l) (.ref r)) Q E s := by
  refine wpAny_binaryOp_same (op := .BitOr) R1.typeIs R2.typeIs PySem.F.fills_set_or PySem.F.slot_set_or (wpAny_call_entry PySem.F.slot_set_or R1.typeIs entry_set_or ?_ (PySem.F.args_set_or_2 _ _))
  unfold Builtin.«frozenset.__or__»
  refine wpAny_bind (m := Builtin.Frozenset.slot1 "__or__" ⟨[.ref l, .ref r], []⟩) (wpAny_pure ?_)
  dsimp only
  simp only [Bool.false_eq_true, if_false]
  obtain ⟨ob, xs, ep, tb, gO, xO, dO, en, nd, sz, ft, rs, ld⟩ := R2
  have R2 : SetG kd s.heap r k2 := ⟨ob, xs, ep, tb, gO, xO, dO, en, nd, sz, ft, rs, ld⟩
  have hlr : r < s.heap.objs.size := Heap.lt_size gO
  have hll : l < s.heap.objs.size := by
    obtain ⟨ob1, _, _, _, g1, _⟩ := R1
    exact Heap.lt_size g1
  refine wpAny_bind ?_
  unfold _root_.andM
  refine wpAny_bind (anySet_yes R1.typeIs ?_)
  show wpAny _ _ (Builtin.Frozenset.isAnySet (.ref r)) _ _ _
  refine anySet_yes R2.typeIs ?_
  refine wp_if_neg (by decide) ?_
  try refine wpAny_bind (wpAny_pure ?_)
  refine wpAny_bind ?_
  refine wpAny_bind (m := Builtin.Frozenset.copyOf l) ?_
  unfold Builtin.Frozenset.copyOf
  refine wpAny_bind ?_
  unfold Builtin.Frozenset.baseOf
  refine wpAny_bind (wpAny_isInstance R1.typeIs PySem.F.sub_set_set ?_)
  refine wpAny_pure ?_
  show wpAny _ _ (newSet (.type "set") >>= _) _ _ _
  refine wpAny_bind (newSet_ok ?_)
  refine wpAny_bind (wpAny_pure ?_)
  have g0 : (s.heap.push (setRaw w)).get? s.heap.objs.size = some (setRaw w) := Heap.get?_push_size _ rfl
  have R1' : SetG kd (s.heap.push (setRaw w)) l k1 := R1.keep fun o e => Heap.get?_push_of_some _ e
  refine wpAny_bind (setG_copy (s := { s with heap := s.heap.push (setRaw w) }) (Nat.ne_of_lt hll) g0 R1' h0 h4 fun ha l1 sb1 G1 p1 => ?_)
  refine wpAny_pure ?_
  have gOa : ha.get? r = some ob := (sb1.2 r (Nat.ne_of_lt hlr)).trans (Heap.get?_push_of_some _ gO)
  have R2a : SetG kd ha r k2 := ⟨ob, xs, ep, tb, gOa, xO, dO, en, nd, sz, ft, rs, ld⟩
  dsimp only
  refine wp_if_pos (by simp; exact ne) ?_
  refine wpAny_bind (wpAny_pure ?_)
  refine wpAny_bind (wpAny_holding ?_)
  unfold Builtin.Frozenset.updateFrom
  refine wpAny_bind (anySet_yes (s := { s with heap := ha }) R2a.typeIs ?_)
  refine wp_if_pos rfl ?_
  refine wpAny_bind (wpAny_pure ?_)
  unfold Builtin.Frozenset.merge
  refine wpAny_bind (wpAny_setEpoch_of (s := { s with heap := ha }) gOa dO ft ?_)
  have hp := p1.length_eq
  refine setG_merge (s := { s with heap := ha }) (Nat.ne_of_lt hlr) G1 (fun z => h0 (List.eq_nil_of_length_eq_zero (by rw [← hp, z]; rfl))) R2a (by rw [hp]; exact few) (fun s' R e hR => ?_) fun hb dr ls sb2 G2 m2 n2 => ?_
  · unfold Builtin.Frozenset.unchanged
    refine wpAny_bind (wpAny_setEpoch_of (e.trans gOa) dO ft ?_)
    refine wp_if_neg (by simp) ?_
    exact wpAny_pure hR
  · refine wpAny_pure (wpAny_pure ⟨_, rfl, (fun z => nomatch z), ?_⟩)
    refine hQ hb dr ls (fun b o e => ?_) G2 (fun x => by rw [m2, p1.mem_iff]) (by rw [← hp]; exact n2)
    have hb2 : b ≠ s.heap.objs.size := Nat.ne_of_lt (Heap.lt_size e)
    rw [sb2.2 b hb2]
    show ha.get? b = some o
    rw [sb1.2 b hb2]
    exact Heap.get?_push_of_some _ e
end
end Wc
namespace Wc
open PySem PySem.Spec PyProof.Rows L2 PpSet
open PyProof.Rows in
theorem fn_ofGC {P : Program} {w : World} {K : PySem.W.Frag} {mg : Str → Option Value} {base : Heap} {k : Nat} {x qual : Str} {st : Stmt} {f : Addr} {fd : FuncData} {N ps : List Str} {sp : Sp} (F : Fun K x qual st f fd) (S : FnScope N ps (defScope st))
    (len : ∀ vs H Q E, sp vs H Q E → vs.length = ps.length)
    (hbody : ∀ (cdv : Value), PySem.W.codeIn K cdv qual = true → ∀ (A : Around) (outer : List Env) (s : Shared) (H : Hp) (vs : List V) (Q : VK) (E : XK), A.guards = some [] → Room k (A.deeper (envOfC qual (defScope st) s.heap.objs.size f cdv)) → sp vs H Q E →
      ∃ t, PSs (cxOf (L2.CX P w) P w K mg base N qual (defScope st) f cdv A outer s H E) (defBody st) t ∧ t { nx := fun _ H' => Q .non H', rt := Q } (start N vs) H) : FnG P w K mg base (k + 1) f fd ps sp := by
  obtain ⟨oc, od, kV, doc, pm, an, cdv, ct, osl, rfl, lk, hcd⟩ := F.ex
  refine ⟨len, fun A outer s H args us vs Q E hg hr e0 hb r hsp => ?_⟩
  have inK : K.In s.heap := e0.mod.kin.keeps fun b o e => (e0.bs b o e).1
  have nl : s.heap.NoLimit := e0.mod.nolimit.keeps fun b o e => (e0.bs b o e).1
  have kinds : ∀ y ∈ ps.zip us, (defScope st).names.lookup y.1 = some .local ∨ ((defScope st).names.lookup y.1 = some .cell ∧ ((cellsFrom (s.heap.objs.size + 1) (defScope st).names []).lookup y.1).isSome = true) := by
    rintro ⟨n, v⟩ hy
    exact (S.par n (List.of_mem_zip hy).1).imp id fun q => ⟨q, PySem.W.cellsFrom_some _ _ _ (.inl q)⟩
  refine codeAny_call_function hr.depth (inK _ _ lk) rfl S.co S.gen rfl (PySem.W.codeRec_of inK hcd) (hb _ _ _ _ (wpAny_newFunctionEnv_cells S.kind kinds fun env he s1 y => ?_))
  subst he
  obtain ⟨t, ht, hq⟩ := hbody cdv hcd A outer s H vs Q E hg (hr.deeper _) hsp
  have I : Inv (cxOf (L2.CX P w) P w K mg base N qual (defScope st) f cdv A outer s H E) [] (start N vs) H s1 := inv_start S hr.hd e0 (len _ _ _ _ hsp) r y
  refine ⟨nl.keeps y.toInCall.keep, codeAny_func (wpAny_mono (ht.run [] s1 (start N vs) H _ I hq) (fun fl s' hs => ?_) fun _ _ hs => hs)⟩
  cases fl with
  | ret u =>
    obtain ⟨v, σ', H', J, rv, q⟩ := hs
    exact ⟨v, H', J.os, J.bare, J.base, J.hok, rv, q⟩
  | next =>
    obtain ⟨σ', H', J, q⟩ := hs
    exact ⟨.non, H', J.os, J.bare, J.base, J.hok, rfl, q⟩
  | brk => exact (hs.elim fun _ z => z.elim fun _ z => z.2.elim)
  | cont => exact (hs.elim fun _ z => z.elim fun _ z => z.2.elim)
theorem fn_mk2C {P : Program} {w : World} {K : PySem.W.Frag} {mg : Str → Option Value} {base : Heap} {T : Cl} {k : Nat} {x qual : Str} {st : Stmt} {f : Addr} {fd : FuncData} {N ps : List Str} {np nl : Nat} {as : List Nat} {F : M Fl} (Fn : Fun K x qual st f fd) (S : FnScope N ps (defScope st))
    (hps : ps.length = np) (hN : N.length = np + nl)
    (body : ∀ (cdv : Value), PySem.W.codeIn K cdv qual = true → ∀ (A : Around) (outer : List Env) (s : Shared) (H : Hp) (E : XK), A.guards = some [] → Room k (A.deeper (envOfC qual (defScope st) s.heap.objs.size f cdv)) →
      Takes (cxOf (L2.CX P w) P w K mg base N qual (defScope st) f cdv A outer s H E) (fun c d _ H => E c d H) →
      PassesOwn (model P w) (cxOf (L2.CX P w) P w K mg base N qual (defScope st) f cdv A outer s H E).A (cxOf (L2.CX P w) P w K mg base N qual (defScope st) f cdv A outer s H E).env (cxOf (L2.CX P w) P w K mg base N qual (defScope st) f cdv A outer s H E).xe →
      PSs (cxOf (L2.CX P w) P w K mg base N qual (defScope st) f cdv A outer s H E) (defBody st) (TSF T (fun c d _ H => E c d H) as F)) :
    FnG P w K mg base (k + 1) f fd ps (spF T np (fnM np nl as F)) := by
  refine fn_ofGC Fn S (fun vs H Q E h => h.1.trans hps.symm) fun cdv hcd A outer s H vs Q E hg hr hsp => ?_
  obtain ⟨hv, Z, env, r, p⟩ := hsp
  refine ⟨_, body cdv hcd A outer s H E hg hr (takes_of rfl rfl rfl rfl) (passes_of rfl), ?_⟩
  have hst : L2.start N vs = vs.map some ++ List.replicate nl none := by
    unfold L2.start
    rw [hN, hv, Nat.add_sub_cancel_left]
  rw [hst]
  obtain ⟨r2, o2⟩ := r.more nl
  refine ⟨Z, _, r2, ?_⟩
  have hl : env.length = np := by rw [r.len]; simpa using hv
  have p : Post T (fun c d _ H' => E c d H') KW (vs.map some) (Owns (vs.map some) env) Z H (fnM np nl as F env) Q := p
  unfold fnM at p
  rw [if_pos hl] at p
  have up : ∀ {O' : Addr → Prop} {Z' H' : Hp}, Adv (Owns (vs.map some ++ List.replicate nl none) (env ++ List.replicate nl none)) Z H O' Z' H' → Adv (Owns (vs.map some) env) Z H O' Z' H' := fun a => a.more o2
  cases e : F (env ++ List.replicate nl none) with
  | ok fl env' =>
    rw [e] at p
    intro Z' H' σ' s1 r1
    cases fl with
    | nx =>
      intro a1
      obtain ⟨b1, b2, b3⟩ := finE_ok (P := fun _ => False) hv r s1 ((up a1).weak fun a h => h.elim id fun z => z.elim) r1 fun a z => z.elim
      exact p Z' H' .non (b1.weak fun a h => h.imp id fun z => by simp [KW, W.own] at z) b2 rfl fun a z => by simp [KW, W.own] at z
    | brk => exact p.elim
    | cont => exact p.elim
    | ret w0 =>
      intro v a1 k1 x1
      obtain ⟨b1, b2, b3⟩ := finE_ok (P := KW.ext v w0) hv r s1 (up a1) r1 x1
      exact p Z' H' v b1 b2 k1 b3
  | exc c ns ds env' =>
    rw [e] at p
    intro Z' H' σ' cls dd s1 a1 r1 k1
    obtain ⟨b1, b2, b3⟩ := finE_ok (P := fun _ => False) hv r s1 ((up a1).weak fun a h => h.elim id fun z => z.elim) r1 fun a z => z.elim
    exact p Z' H' cls dd (b1.weak fun a h => .inl h) b2 k1
  | bad =>
    rw [e] at p
    exact p
theorem kds_of_code {K : PySem.W.Frag} {cd : Value} {q : Str} (h : PySem.W.codeIn K cd q = true) : PySem.W.kdsCode K cd = true := by
  unfold PySem.W.codeIn at h
  unfold PySem.W.kdsCode
  split at h
  · split at h
    · rename_i e
      dsimp only
      rw [e]
    · cases h
  · cases h
section
variable {X : Cx}
def tSet1 (P : Program) (w : World) (te : TE) : TE := fun σ H Q => ∀ p, H p = none → te σ (upd H p (SetM P w p [])) fun y H1 => ∃ k, y = kV k ∧ H1 p = some (SetM P w p []) ∧ ∀ ls : List Key, ls = [k] → Q (.ref p) (upd H1 p (SetM P w p ls))
theorem setAdd_ok {pins : List (Addr × Obj)} {σ : L2.St} {H : Hp} {s : Shared} {E : Value → Shared → Prop} {D : Addr} {ks : List Key} {k : Key} {u : Value} {Q : Bool → Shared → Prop} (I : Inv X pins σ H s) (hD : H D = some (SetM X.prog X.w D ks)) (hk : (mixKind X.prog X.w).is k u = true) (sn : u.scannable = true)
    (room : ks.length + 1 < scanBound) (h : ∀ (t : Bool) b ls, ls.Nodup → (∀ x, x ∈ ls ↔ x = k ∨ x ∈ ks) → ls.length ≤ ks.length + 1 → Inv X pins σ (upd H D (SetM X.prog X.w D ls)) b → Q t b) : wpAny (model X.prog X.w) X.A (setAdd D u) Q E s := by
  have G := setM_get I hD
  unfold setAdd
  refine wpAny_holding (wpAny_bind ((mixKind X.prog X.w).pyHash hk ?_))
  refine setG_put (s := { s with toks := s.toks + 1 }) G hk sn room fun h' ls sb G2 hp => ?_
  refine h _ _ ls (setG_nodup G2) (fun x => ?_) ?_ (I.write (e := D) (t' := s.toks + 1) (by rw [hD]; trivial) (.inl rfl) (fun b o hb ho => (sb.2 b hb).trans ho) ?_ (setM_new G2))
  · by_cases q : k ∈ ks
    · rw [if_pos q] at hp; rw [hp]
      exact ⟨.inr, fun z => z.elim (fun z => z ▸ q) id⟩
    · rw [if_neg q] at hp; rw [hp.mem_iff, List.mem_cons]
  · by_cases q : k ∈ ks
    · rw [if_pos q] at hp; rw [hp]; omega
    · rw [if_neg q] at hp; rw [hp.length_eq, List.length_cons]; exact Nat.le_refl _
  · obtain ⟨o, es, ep, t, ho, _⟩ := G2
    exact ⟨o, ho⟩
theorem pe_set1 {e : Expr} {k : Nat} {pos : Pos} {te : TE} (he : PE X e te) (hcode : PySem.W.kdsCode X.K X.env.code = true) (hroad : displayRoad k [e] = .oneByOne := by rfl) (hst : starEach [e] X.env = [(false, eval e X.env)] := by rfl) :
    PE X (.Set [e] k pos) (tSet1 X.prog X.w te) := by
  refine ⟨fun pins s σ H Q I h => ?_⟩
  rw [arm_eval_Set]
  refine wpAny_bind (wpAny_standAt ?_)
  refine wpAny_bind (PySem.W.kds_main I.kIn hcode fun b => ?_)
  rw [hst, hroad]
  unfold setDisplay
  dsimp only [List.map_cons, List.map_nil]
  refine wp_if_neg (by decide) ?_
  try refine wpAny_bind (wpAny_pure ?_)
  refine wpAny_bind (newSet_ok ?_)
  dsimp only
  generalize hD : s.heap.objs.size = D
  have hDn : H D = none := I.hok.fresh (Nat.le_of_eq hD)
  have h := h D hDn
  generalize hs3 : ({ s with heap := s.heap.push (setRaw X.w) } : Shared) = s3
  have I3 : Inv X pins σ (upd H D (SetM X.prog X.w D [])) s3 := by
    rw [← hs3]
    refine I.laid (t' := s.toks) (fun b o e => Heap.get?_push_of_some _ e) (Nat.le_of_eq hD) (setM_new (setG_new ?_))
    rw [← hD]
    exact Heap.get?_push_size _ rfl
  refine wpAny_bind (wpAny_holding (wpAny_bind (m := evalAll [eval e X.env >>= fun v => standAt pos >>= fun _ => pure v]) ?_))
  refine wpAny_bind (wpAny_bind (thn (he.run pins s3 σ _ _ I3 h) fun u s4 ⟨y, H1, I4, ry, k, ey, hD1, q⟩ => ?_))
  refine wpAny_bind (wpAny_standAt (wpAny_pure ?_))
  refine wpAny_bind (wpAny_holding (wpAny_pure ?_))
  refine wpAny_pure ?_
  refine wpAny_bind (wpAny_holding (wpAny_bind ?_))
  rw [List.forIn_cons]
  refine wpAny_bind (wpAny_bind ?_)
  subst ey
  refine setAdd_ok I4 hD1 (kV_is ry) (key_scan ry) (by decide) fun b s5 ls n1 n2 n3 I5 => ?_
  refine wpAny_pure ?_
  dsimp only
  rw [List.forIn_nil]
  refine wpAny_pure ?_
  refine wp_if_neg (by decide) ?_
  refine wpAny_pure ?_
  show wpAny _ _ (forIn ([] : List (Bool × Sem Value)) PUnit.unit _ >>= _) _ _ _
  rw [List.forIn_nil]
  refine wpAny_bind (wpAny_pure (wpAny_pure ?_))
  have e1 : ls = [k] := by
    cases ls with
    | nil => exact absurd ((n2 k).mpr (.inl rfl)) (by simp)
    | cons x r =>
      have hr : r = [] := by
        cases r with
        | nil => rfl
        | cons y r2 =>
          simp only [List.length_cons, List.length_nil] at n3
          omega
      subst hr
      rcases (n2 x).mp List.mem_cons_self with rfl | z
      · rfl
      · cases z
  exact wpAny_pure ⟨.ref D, _, I5, rfl, q ls e1⟩
end
end Wc
namespace Wc
open PySem PySem.Spec L2 PpSet
theorem nodup_le {α : Type} [DecidableEq α] : ∀ {ks L : List α}, ks.Nodup → (∀ x ∈ ks, x ∈ L) → ks.length ≤ L.length
  | [], _, _, _ => Nat.zero_le _
  | k :: ks, L, h, hs => by
    obtain ⟨h1, h2⟩ := List.nodup_cons.mp h
    have hk := hs k List.mem_cons_self
    have ih := nodup_le (L := L.erase k) h2 fun x hx => (List.mem_erase_of_ne (show x ≠ k from fun e => h1 (by rw [← e]; exact hx))).2 (hs x (List.mem_cons_of_mem _ hx))
    rw [List.length_erase_of_mem hk] at ih
    have := List.length_pos_of_mem hk
    rw [List.length_cons]
    omega
def kyD : D → Option Key
  | .int i => some (.inl i)
  | _ => none
def InL (L : List Key) (d : D) : Prop := ∃ k ∈ L, kyD d = some k
/-- the set at D has the keys of acc; the object o at p stays -/
structure MkS (P : Program) (w : World) (o : HO) (p : Addr) (L : List Key) (T : Cl) (O0 : Addr → Prop) (Z0 H0 : Hp) (D : Addr) (σ : L2.St) (env : Env') (acc : List Wc.D) (Z H : Hp) : Prop where
  r : REnv T Z H σ env
  a : Adv O0 Z0 H0 (fun x => Owns σ env x ∨ x = D) Z H
  hD : ∃ ks, H D = some (SetM P w D ks) ∧ ks.Nodup ∧ ∀ x, x ∈ ks ↔ ∃ d ∈ acc, kyD d = some x
  zD : Z D = none
  nD : ¬ Owns σ env D
  hp : H p = some o
  zp : Z p = none
  np : ¬ Owns σ env p
  pd : p ≠ D
section
variable {P : Program} {w : World} {o : HO} {p : Addr} {L : List Key} {T : Cl} {O0 : Addr → Prop} {Z0 H0 : Hp} {D : Addr} {σ σ' : L2.St} {env env' : Env'} {acc : List Wc.D} {Z H Z' H' : Hp}
theorem MkS.new {q : Addr} {u : HO} (m : MkS P w o p L T O0 Z0 H0 D σ env acc Z H) (hq : H q = none) : MkS P w o p L T O0 Z0 H0 D σ env acc (upd Z q u) (upd H q u) := by
  obtain ⟨ks, h1, h2, h3⟩ := m.hD
  have ne : D ≠ q := fun e => by rw [← e, h1] at hq; cases hq
  have ne2 : p ≠ q := fun e => by rw [← e, m.hp] at hq; cases hq
  exact ⟨m.r.new hq, m.a.trans (Adv.new m.r.ex hq), ⟨ks, by rw [upd_ne ne]; exact h1, h2, h3⟩, by rw [upd_ne ne]; exact m.zD, m.nD, by rw [upd_ne ne2]; exact m.hp, by rw [upd_ne ne2]; exact m.zp, m.np, m.pd⟩
theorem MkS.sub (m : MkS P w o p L T O0 Z0 H0 D σ env acc Z H) (r : REnv T Z H σ' env') (h : ∀ a, Owns σ' env' a → Owns σ env a) : MkS P w o p L T O0 Z0 H0 D σ' env' acc Z H :=
  ⟨r, m.a.weak fun _ z => z.imp (h _) id, m.hD, m.zD, fun z => m.nD (h _ z), m.hp, m.zp, fun z => m.np (h _ z), m.pd⟩
theorem MkS.run (m : MkS P w o p L T O0 Z0 H0 D σ env acc Z H) (a : Adv (Owns σ env) Z H (Owns σ' env') Z' H') (r : REnv T Z' H' σ' env') : MkS P w o p L T O0 Z0 H0 D σ' env' acc Z' H' := by
  obtain ⟨ks, h1, h2, h3⟩ := m.hD
  have zz : ∀ {q : Addr} {u : HO}, H q = some u → Z q = none → ¬ Owns σ env q → Z' q = none := fun {q u} hq zq nq => by
    cases e : Z' q with
    | none => rfl
    | some v =>
      rcases a.nz q v e with g | g | g
      · rw [zq] at g; cases g
      · exact absurd g nq
      · rw [hq] at g; cases g
  have oo : ∀ {q : Addr} {u : HO}, H q = some u → ¬ Owns σ env q → ¬ Owns σ' env' q := fun {q u} hq nq z => by
    rcases a.ow q z with g | g
    · exact nq g
    · rw [hq] at g; cases g
  exact ⟨r, m.a.trans ((a.more fun x z => .inl z).wid (P := fun x => x = D) fun x z => .inr z), ⟨ks, a.fr D _ h1 m.nD, h2, h3⟩, zz h1 m.zD m.nD, oo h1 m.nD, a.fr p _ m.hp m.np, zz m.hp m.zp m.np, oo m.hp m.np, m.pd⟩
theorem MkS.app {y : Wc.D} {k : Key} {ks ls : List Key} (m : MkS P w o p L T O0 Z0 H0 D σ env acc Z H) (h3 : ∀ x, x ∈ ks ↔ ∃ d ∈ acc, kyD d = some x) (hk : kyD y = some k) (n1 : ls.Nodup) (n2 : ∀ x, x ∈ ls ↔ x = k ∨ x ∈ ks) : MkS P w o p L T O0 Z0 H0 D σ env (acc ++ [y]) Z (upd H D (SetM P w D ls)) := by
  have wr : Adv (fun x => x = D) Z H (fun x => x = D) Z (upd H D (SetM P w D ls)) := Adv.write m.r.ex rfl m.zD
  refine ⟨m.r.step wr fun q hq e => m.nD (by rw [← e]; exact hq), m.a.trans (Adv.write m.r.ex (.inr rfl) m.zD), ⟨ls, upd_same, n1, fun x => ?_⟩, m.zD, m.nD, by rw [upd_ne m.pd]; exact m.hp, m.zp, m.np, m.pd⟩
  rw [n2, h3]
  constructor
  · rintro (rfl | ⟨d, hd, e⟩)
    · exact ⟨y, List.mem_append_right _ (List.mem_singleton.mpr rfl), hk⟩
    · exact ⟨d, List.mem_append_left _ hd, e⟩
  · rintro ⟨d, hd, e⟩
    rcases List.mem_append.mp hd with z | z
    · exact .inr ⟨d, z, e⟩
    · rw [List.mem_singleton.mp z, hk] at e
      exact .inl (Option.some.inj e).symm
theorem MkS.wip (m : MkS P w o p L T O0 Z0 H0 D σ env acc Z H) (vs : List Nat) : MkS P w o p L T O0 Z0 H0 D (wipe σ vs) (wipE env vs) acc Z H :=
  m.sub (m.r.wip vs).1 fun a z => ((m.r.wip vs).2 a z).1
/-- act does what A does: it puts A's elements in -/
def ActS (P : Program) (w : World) (o : HO) (p : Addr) (L : List Key) (T : Cl) (O0 : Addr → Prop) (Z0 H0 : Hp) (D : Addr) (own : List Nat) (act : L2.St → Hp → (Hp → Prop) → Prop) (A : M (List Wc.D)) : Prop :=
  ∀ (σ : L2.St) (env : Env') (acc : List Wc.D) (Z H : Hp) (Nx : Hp → Prop) (ys : List Wc.D) (e : Env'), MkS P w o p L T O0 Z0 H0 D σ env acc Z H → A env = .ok ys e → (∀ d ∈ acc ++ ys, InL L d) →
    (∀ Z' H' σ', Ex Z Z' → σ'.length = σ.length → (∀ i : Nat, i ∉ own → σ'[i]? = σ[i]?) → MkS P w o p L T O0 Z0 H0 D σ' e (acc ++ ys) Z' H' → Nx H') → act σ H Nx
end
section
variable {P : Program} {w : World} {o : HO} {p : Addr} {L : List Key} {X : Cx} {T : Cl} {Wx : WX} {tg : Expr} {t : Tg} {g : TG} {b : M Bool} {f : M D} {tt : TT} {te : TE} {O0 : Addr → Prop} {Z0 H0 : Hp} {D : Addr}
theorem actS_one {own : List Nat} (few : L.length + 1 < scanBound) (ht : ∀ σ H Q, TF T W0 KB b σ H Q → tt σ H Q) (he : ∀ σ H Q, TF T W0 KD f σ H Q → te σ H Q) :
    ActS P w o p L T O0 Z0 H0 D own (fun σ H Nx => tt σ H fun b H3 => if b = true then te σ H3 fun y H4 => ∃ (k : Key) (ks : List Key), y = kV k ∧ H4 D = some (SetM P w D ks) ∧ ks.length + 1 < scanBound ∧ ∀ ls : List Key, ls.Nodup → (∀ x, x ∈ ls ↔ x = k ∨ x ∈ ks) → ls.length ≤ ks.length + 1 → Nx (upd H4 D (SetM P w D ls)) else Nx H3) (oneA b f) := by
  intro σ env acc Z H Nx ys e m run fits k
  have run : (b env).bind (fun c => if c = true then (f >>= fun y => M.pure [y]) else M.pure []) = .ok ys e := run
  refine ht _ _ _ ⟨Z, env, m.r, ?_⟩
  cases eb : b env with
  | exc _ _ _ _ => rw [eb] at run; cases run
  | bad => rw [eb] at run; cases run
  | ok c env1 =>
    rw [eb] at run
    intro Z1 H1 c' a1 r1 ec _
    have ec : c' = c := ec
    subst ec
    have m1 := m.run (a1.weak fun _ z => .inl z) r1
    cases c' with
    | false =>
      have run : M.pure [] env1 = .ok ys e := run
      cases run
      show Nx H1
      exact k Z1 H1 σ a1.zz rfl (fun _ _ => rfl) (by rw [List.append_nil]; exact m1)
    | true =>
      have run : (f env1).bind (fun y => M.pure [y]) = .ok ys e := run
      refine he _ _ _ ⟨Z1, env1, r1, ?_⟩
      cases ef : f env1 with
      | exc _ _ _ _ => rw [ef] at run; cases run
      | bad => rw [ef] at run; cases run
      | ok y env2 =>
        rw [ef] at run
        cases run
        intro Z2 H2 v a2 r2 sy _
        have m2 := m1.run (a2.weak fun _ z => .inl z) r2
        obtain ⟨ks, h1, h2, h3⟩ := m2.hD
        obtain ⟨ky, hk1, hk2⟩ := fits y (List.mem_append_right _ (List.mem_singleton.mpr rfl))
        have hv : v = kV ky := by
          cases y with
          | int i => cases hk2; exact sy
          | _ => cases hk2
        refine ⟨ky, ks, hv, h1, ?_, fun ls n1 n2 n3 => k Z2 _ σ (a1.zz.trans a2.zz) rfl (fun _ _ => rfl) (m2.app h3 hk2 n1 n2)⟩
        have hs : ks.length ≤ L.length := by
          have hsub : ∀ x ∈ ks, x ∈ L := fun x hx => by
            obtain ⟨d, hd, e⟩ := (h3 x).mp hx
            obtain ⟨k', q1, q2⟩ := fits d (List.mem_append_left _ hd)
            rw [e] at q2
            rw [Option.some.inj q2]
            exact q1
          exact nodup_le h2 hsub
        omega
theorem lcS_core {J : It} {items : List Wc.D} {Lk Z H : Hp} {σ : St} {env : Env'} {own : List Nat} {acc xs : List Wc.D} {e : Env'} {A : M (List Wc.D)} {act : St → Hp → (Hp → Prop) → Prop} {Nx : Hp → Prop}
    (hg : ∀ (Z H : Hp) (σ : St) (env : Env') (v : V) (d : Wc.D) (env' : Env') (Q : St → Hp → Prop), REnv T Z H σ env → Sh T Z d v → stT t d env = some env' →
      (∀ σ' : St, (∀ i : Nat, i ∉ own → σ'[i]? = σ[i]?) → REnv T Z H σ' env' → (∀ a, Owns σ' env' a → Owns σ env a) → Q σ' H) → g v σ H Q)
    (hA : ActS P w o p L T O0 Z0 H0 D own act A) (gi : GI T Z Lk J items) (lk : Ex Lk H0) (ln : ∀ p o, Lk p = some o → ¬ O0 p) (m : MkS P w o p L T O0 Z0 H0 D (wipe σ own) (wipE env own) acc Z H) (run : lcGoA own t A items env = .ok xs e) (fits : ∀ d ∈ acc ++ xs, InL L d)
    (k : ∀ Z' H', Ex Z Z' → MkS P w o p L T O0 Z0 H0 D (wipe σ own) e (acc ++ xs) Z' H' → Nx H') :
    ∃ W : Nat → Nat → Hp → Prop, (∃ m, W 0 m H) ∧ ∀ i m H, W i m H →
      (J.stop i H ∧ Nx H) ∨ (J.go i H ∧ ∃ Nx' : Hp → Prop, (∀ H', Nx' H' → ∃ m', m' < m ∧ W (i + 1) m' H') ∧ ∀ x H', J.yld i H x H' → g x (wipe σ own) H' fun σ2 H2 => wipe σ2 own = wipe σ own ∧ act σ2 H2 Nx') := by
  obtain ⟨hl, G, Y, wk, hG, hY⟩ := gi
  let Pv : Nat → Hp → Prop := fun i H' => ∃ Z' env' acc', MkS P w o p L T O0 Z0 H0 D (wipe σ own) (wipE env' own) acc' Z' H' ∧ Ex Z Z' ∧ pre acc' (lcGoA own t A (items.drop i) env') = .ok (acc ++ xs) e
  have hG' : ∀ i H', Pv i H' → G H' := fun i H' ⟨Z', env', acc', m', z', _⟩ => hG H' (z'.trans m'.r.ex) (lock_later m'.a lk ln).1
  refine ⟨fun i n H' => n = items.length - i ∧ i ≤ items.length ∧ Pv i H', ⟨items.length, by simp, Nat.zero_le _, Z, env, acc, m, Evl.Ex.refl Z, by rw [List.drop_zero, run]; rfl⟩, ?_⟩
  rintro i n H1 ⟨rfl, hi, pv⟩
  have q := hG' i H1 pv
  by_cases hlt : i < items.length
  · refine .inr ⟨wk.goes i H1 hlt q, Pv (i + 1), fun H' p' => ⟨items.length - (i + 1), by omega, rfl, hlt, p'⟩, fun x H2 y => ?_⟩
    have y := wk.yields i H1 x H2 hlt q y
    obtain ⟨Z1, env1, acc1, m1, z1, run1⟩ := pv
    obtain ⟨d, e1, hd⟩ := hY i H1 x H2 hlt (z1.trans m1.r.ex) (lock_later m1.a lk ln).1 y
    have ed : items.drop i = d :: items.drop (i + 1) := by
      rw [List.drop_eq_getElem_cons hlt]
      congr 1
      rw [List.getElem?_eq_getElem hlt] at e1
      exact Option.some.inj e1
    rw [ed] at run1
    have key : ∀ {Z2 : Hp}, Ex Z1 Z2 → MkS P w o p L T O0 Z0 H0 D (wipe σ own) (wipE env1 own) acc1 Z2 H2 → Sh T Z2 d x → g x (wipe σ own) H2 fun σ2 H2 => wipe σ2 own = wipe σ own ∧ act σ2 H2 (Pv (i + 1)) := by
      intro Z2 z2 m2 s2
      simp only [lcGoA] at run1
      cases es : stT t d (wipE env1 own) with
      | none => rw [es] at run1; cases run1
      | some env2 =>
        rw [es] at run1
        simp only at run1
        refine hg Z2 H2 (wipe σ own) (wipE env1 own) x d env2 _ m2.r s2 es fun σ2 q2 r3 o3 => ?_
        have len2 : σ2.length = σ.length := by
          have h1 := r3.len
          have h2 := m2.r.len
          have h3 : env2.length = (wipE env1 own).length := stT_len _ _ _ _ es
          rw [wipE_len, wipe_length] at h2
          rw [wipE_len] at h3
          omega
        refine ⟨wipe_eq len2 (vs := own) (fun _ h => h) q2, ?_⟩
        have m3 := m2.sub r3 o3
        cases ea : A env2 with
        | exc _ _ _ _ => rw [ea] at run1; cases run1
        | bad => rw [ea] at run1; cases run1
        | ok ys env3 =>
          rw [ea] at run1
          simp only at run1
          cases er : lcGoA own t A (items.drop (i + 1)) env3 with
          | exc _ _ _ _ => rw [er] at run1; cases run1
          | bad => rw [er] at run1; cases run1
          | ok zs env4 =>
            rw [er] at run1
            simp only [pre] at run1
            have h5 : acc1 ++ (ys ++ zs) = acc ++ xs ∧ env4 = e := by injection run1 with h5 h6; exact ⟨h5, h6⟩
            refine hA σ2 env2 acc1 Z2 H2 _ ys env3 m3 ea (fun d hd => fits d (by rw [← h5.1, ← List.append_assoc]; exact List.mem_append_left _ hd)) fun Z4 H4 σ4 z4 l4 q4 m4 => ⟨Z4, env3, acc1 ++ ys, ?_, (z1.trans z2).trans z4, ?_⟩
            · have m5 := m4.wip own
              rw [wipe_eq (σ := σ) (by rw [l4]; exact len2) (vs := own) (fun _ h => h) fun j hj => (q4 j hj).trans (q2 j hj)] at m5
              exact m5
            · rw [er]
              simp only [pre]
              rw [List.append_assoc, h5.1, h5.2]
    rcases hd with ⟨rfl, s⟩ | ⟨q, vs, ds, rfl, hq, rfl, rfl, hl2, s⟩
    · exact key (Evl.Ex.refl Z1) m1 (Sh.mono z1 d x s)
    · have zq : Z1 q = none := Evl.fresh_back m1.r.ex hq
      exact key (Evl.Ex.new zq) (m1.new hq) ⟨q, vs, rfl, upd_same, hl2, ShL.mono (z1.trans (Evl.Ex.new zq)) ds vs s⟩
  · have e1 : i = items.length := by omega
    subst e1
    refine .inl ⟨wk.stops H1 q, ?_⟩
    obtain ⟨Z1, env1, acc1, m1, z1, run1⟩ := pv
    rw [List.drop_length] at run1
    simp only [lcGoA, pre, List.append_nil] at run1
    have h5 : acc1 = acc ++ xs ∧ wipE env1 own = e := by injection run1 with h5 h6; exact ⟨h5, h6⟩
    rw [h5.1, h5.2] at m1
    exact k Z1 H1 z1 m1
theorem actS_in {own vs1 : List Nat} {it1 : M (List Wc.D)} {t1 : Tg} {g1 : TG} {wi1 : TI} {A1 : M (List Wc.D)} {act1 : St → Hp → (Hp → Prop) → Prop} (hv : ∀ i ∈ vs1, i ∈ own) (ht : ∀ σ H Q, TF T W0 KB b σ H Q → tt σ H Q) (hi : ∀ σ H Q, TF T W0 (KI none') it1 σ H Q → wi1 σ H Q)
    (hg : ∀ (Z H : Hp) (σ : St) (env : Env') (v : V) (d : Wc.D) (env' : Env') (Q : St → Hp → Prop), REnv T Z H σ env → Sh T Z d v → stT t1 d env = some env' →
      (∀ σ' : St, (∀ i : Nat, i ∉ vs1 → σ'[i]? = σ[i]?) → REnv T Z H σ' env' → (∀ a, Owns σ' env' a → Owns σ env a) → Q σ' H) → g1 v σ H Q)
    (hA : ActS P w o p L T O0 Z0 H0 D vs1 act1 A1) :
    ActS P w o p L T O0 Z0 H0 D own (fun σ H Nx => tt σ H fun b H3 => if b = true then wi1 σ H3 fun J1 H4 => ∃ W1 : Nat → Nat → Hp → Prop, (∃ m, W1 0 m H4) ∧ ∀ j k H, W1 j k H →
      (J1.stop j H ∧ Nx H) ∨ (J1.go j H ∧ ∃ Nx1 : Hp → Prop, (∀ H', Nx1 H' → ∃ k', k' < k ∧ W1 (j + 1) k' H') ∧ ∀ x H', J1.yld j H x H' → g1 x (wipe σ vs1) H' fun σ3 H5 => wipe σ3 vs1 = wipe σ vs1 ∧ act1 σ3 H5 Nx1)
      else Nx H3) (inA b vs1 it1 t1 A1) := by
  intro σ env acc Z H Nx ys e m run fits k
  have run : (b env).bind (fun c => if c = true then (it1 >>= lcGoA vs1 t1 A1) else M.pure []) = .ok ys e := run
  refine ht _ _ _ ⟨Z, env, m.r, ?_⟩
  cases eb : b env with
  | exc _ _ _ _ => rw [eb] at run; cases run
  | bad => rw [eb] at run; cases run
  | ok c env1 =>
    rw [eb] at run
    intro Z1 H1 c' a1 r1 ec _
    have ec : c' = c := ec
    subst ec
    have m1 := m.run (a1.weak fun _ z => .inl z) r1
    cases c' with
    | false =>
      have run : M.pure [] env1 = .ok ys e := run
      cases run
      show Nx H1
      exact k Z1 H1 σ a1.zz rfl (fun _ _ => rfl) (by rw [List.append_nil]; exact m1)
    | true =>
      have run : (it1 env1).bind (lcGoA vs1 t1 A1) = .ok ys e := run
      refine hi _ _ _ ⟨Z1, env1, r1, ?_⟩
      cases ef : it1 env1 with
      | exc _ _ _ _ => rw [ef] at run; cases run
      | bad => rw [ef] at run; cases run
      | ok items env2 =>
        rw [ef] at run
        have run : lcGoA vs1 t1 A1 items env2 = .ok ys e := run
        intro Z2 H2 J a2 r2 gi _
        have m2 := m1.run (a2.weak fun _ z => .inl z) r2
        exact lcS_core (Lk := none') hg hA gi ex_none (fun _ _ h => by cases h) (m2.wip vs1) run fits fun Z' H' z' m' => k Z' H' _ ((a1.zz.trans a2.zz).trans z') (wipe_length _ _) (fun i h => wipe_out fun z => h (hv i z)) m'
end
end Wc
namespace Wc
open PySem PySem.Spec L2 PpSet
def rOrS (P : Program) (w : World) : R2 := fun x y H Q => ∃ (l r : Addr) (k1 k2 : List Key), x = .ref l ∧ y = .ref r ∧ H l = some (SetM P w l k1) ∧ H r = some (SetM P w r k2) ∧ r ≠ l ∧ k1 ≠ [] ∧ k1.length ≤ 4 ∧ k1.length + k2.length ≤ 20 ∧
  ∀ (ls : List Key) (p : Addr), ls.Nodup → (∀ x, x ∈ ls ↔ x ∈ k1 ∨ x ∈ k2) → H p = none → Q (.ref p) (upd H p (SetM P w p ls))
theorem op_orS {X : Cx} : OpR X (binaryOp .BitOr) (rOrS X.prog X.w) := by
  intro pins s σ H x y v u Q I rx ry h
  obtain ⟨l, r, k1, k2, rfl, rfl, h1, h2, ne, h0, h4, few, q⟩ := h
  obtain rfl : v = Value.ref l := rx
  obtain rfl : u = Value.ref r := ry
  refine setG_or (setM_get I h1) (setM_get I h2) h0 h4 few ne fun h' dr ls keep G m2 n2 => ?_
  have hn : H s.heap.objs.size = none := I.hok.fresh (Nat.le_refl _)
  have J : Inv X pins σ (upd H s.heap.objs.size (SetM X.prog X.w s.heap.objs.size ls)) { s with heap := h', drawn := dr } :=
    I.call (ch := []) (Un.laid keep (Nat.le_refl _) hn) (I.hok.laid keep (Nat.le_refl _) (setM_new G)) I.bare (fun _ z => nomatch z)
  exact ⟨.ref s.heap.objs.size, _, J, rfl, q ls _ (setG_nodup G) m2 hn⟩
def uniD : D → List D → Option W
  | .int i, xs => (asIs xs).bind fun ns => if (srtW ns).length ≤ 19 then some (.ml ((srtW (i :: ns)).map .int)) else none
  | _, _ => none
def sortOrM (f : M D) (it : M (List D)) (own : List Nat) (t : Tg) (A : M (List D)) : M W := fun env => match f env with
  | .ok d e1 => (match it e1 with
    | .ok items e2 => (match lcGoA own t A items e2 with
      | .ok xs e3 => (match uniD d xs with
        | some w => .ok w (rstE e2 e3 own)
        | none => .bad)
      | _ => .bad)
    | _ => .bad)
  | _ => .bad
theorem intsOnly : ∀ {ds : List D} {ns : List Int}, asIs ds = some ns → ds = ns.map D.int
  | [], ns, e => by simp only [asIs] at e; cases e; rfl
  | .int i :: r, ns, e => by
    simp only [asIs] at e
    cases e4 : asIs r with
    | none => rw [e4] at e; cases e
    | some cs =>
      rw [e4] at e
      cases e
      rw [List.map_cons, ← intsOnly e4]
  | .str _ :: _, _, e => by simp [asIs] at e
  | .bl _ :: _, _, e => by simp [asIs] at e
  | .non :: _, _, e => by simp [asIs] at e
  | .lst _ :: _, _, e => by simp [asIs] at e
  | .tup _ :: _, _, e => by simp [asIs] at e
  | .dic _ _ :: _, _, e => by simp [asIs] at e
  | .obj _ _ _ :: _, _, e => by simp [asIs] at e
  | .exn _ _ _ :: _, _, e => by simp [asIs] at e
  | .scr _ :: _, _, e => by simp [asIs] at e
  | .fnv _ :: _, _, e => by simp [asIs] at e
section
variable {X : Cx} {T : Cl} {Wx : WX} {f f1 : M D} {b b1 : M Bool} {it it1 : M (List D)} {t t1 : Tg} {g g1 : TG} {e el tg u0 tg1 u1 : Expr} {js js1 : List Expr} {sc : Scope} {own : List (Str × Nat)} {vs1 : List Nat} {ps ps1 ps2 pos p0 : Pos} {kk : Nat}
theorem pd_sortOr (hc : X.calm = true) (hN : X.N.Nodup) (hgs : Gl X "sorted") (hms : X.mg "sorted" = none) (hcode : PySem.W.kdsCode X.K X.env.code = true) (hf : PE X e (TF T Wx KD f)) (hi : PI X tg u0 (TF T Wx (KI none') it)) (ok : BlkOk X.N X.env.scope sc own) (hv : ∀ i ∈ vs1, i ∈ own.map (·.2))
    (hg : ∀ (s : Shared) (H : Hp) (C : Addr) (cl : List (Str × Addr)) (fp : List Addr), GT (X.blk s H sc (compEnvC sc cl C X.env) fp) T (own.map (·.2)) tg t g)
    (ht : ∀ (s : Shared) (H : Hp) (C : Addr) (cl : List (Str × Addr)) (fp : List Addr), PTs (X.blk s H sc (compEnvC sc cl C X.env) fp) js (TF T W0 KB b))
    (hi1 : ∀ (s : Shared) (H : Hp) (C : Addr) (cl : List (Str × Addr)) (fp : List Addr), PI (X.blk s H sc (compEnvC sc cl C X.env) fp) tg1 u1 (TF T W0 (KI none') it1))
    (hg1 : ∀ (s : Shared) (H : Hp) (C : Addr) (cl : List (Str × Addr)) (fp : List Addr), GT (X.blk s H sc (compEnvC sc cl C X.env) fp) T vs1 tg1 t1 g1)
    (ht1 : ∀ (s : Shared) (H : Hp) (C : Addr) (cl : List (Str × Addr)) (fp : List Addr), PTs (X.blk s H sc (compEnvC sc cl C X.env) fp) js1 (TF T W0 KB b1))
    (he : ∀ (s : Shared) (H : Hp) (C : Addr) (cl : List (Str × Addr)) (fp : List Addr), PE (X.blk s H sc (compEnvC sc cl C X.env) fp) el (TF T W0 KD f1))
    (hs0 : ∀ x, foldedSetIterable u0 X.env x = pure x := by intro _; rfl) (hs1 : ∀ en x, foldedSetIterable u1 en x = pure x := by intro _ _; rfl)
    (hroad : displayRoad kk [e] = .oneByOne := by rfl) (hst : starEach [e] X.env = [(false, eval e X.env)] := by rfl)
    (hs : starEach [.BinOp (.Set [e] kk ps1) .BitOr (sC2 el tg u0 tg1 u1 js js1 sc ps) ps2] X.env = (false, eval (.BinOp (.Set [e] kk ps1) .BitOr (sC2 el tg u0 tg1 u1 js js1 sc ps) ps2) X.env) :: starEach [] X.env := by rfl) :
    PE X (.Call (.Name "sorted" p0) [.BinOp (.Set [e] kk ps1) .BitOr (sC2 el tg u0 tg1 u1 js js1 sc ps) ps2] [] pos) (TF T Wx KW (sortOrM f it (own.map (·.2)) t (inA b vs1 it1 t1 (oneA b1 f1)))) :=
  peImp (pe_callB (cr_sortG hc) hgs hms (by decide +kernel) (pa_cons (pe_op op_orS (pe_set1 hf hcode hroad hst) (pe_sc2 hc hN hi ok hv (fun s H C cl fp => (hg s H C cl fp).1) ht hi1 (fun s H C cl fp => (hg1 s H C cl fp).1) ht1 he hs0 hs1)) pa_nil hs) (by decide) (by decide) hs) fun σ H Q q => by
    obtain ⟨Z, env, r, p⟩ := q
    unfold sortOrM at p
    intro pa hpa
    cases ef : f env with
    | exc _ _ _ _ => rw [ef] at p; exact p.elim
    | bad => rw [ef] at p; exact p.elim
    | ok d e1 =>
      rw [ef] at p
      dsimp only at p
      cases ei : it e1 with
      | exc _ _ _ _ => rw [ei] at p; exact p.elim
      | bad => rw [ei] at p; exact p.elim
      | ok items e2 =>
        rw [ei] at p
        dsimp only at p
        cases er : lcGoA (own.map (·.2)) t (inA b vs1 it1 t1 (oneA b1 f1)) items e2 with
        | exc _ _ _ _ => rw [er] at p; exact p.elim
        | bad => rw [er] at p; exact p.elim
        | ok xs e3 =>
          rw [er] at p
          dsimp only at p
          cases eu : uniD d xs with
          | none => rw [eu] at p; exact p.elim
          | some w =>
            rw [eu] at p
            dsimp only at p
            cases d with
            | int i =>
              simp only [uniD] at eu
              cases en : asIs xs with
              | none => rw [en] at eu; cases eu
              | some ns =>
                rw [en, Option.bind_some] at eu
                split at eu
                · rename_i few
                  cases eu
                  have hxs := intsOnly en
                  have r0 : REnv T Z (upd H pa (SetM X.prog X.w pa [])) σ env := r.newO hpa
                  have np0 : ¬ Owns σ env pa := Owns.fresh r hpa
                  refine ⟨Z, env, r0, ?_⟩
                  rw [ef]
                  intro Z1 H1 v a1 r1 kd _
                  have hv1 : v = .int i := kd
                  have hp1 : H1 pa = some (SetM X.prog X.w pa []) := a1.fr pa _ upd_same np0
                  refine ⟨.inl i, hv1, hp1, fun ls hls => ?_⟩
                  subst hls
                  have zp0 : Z pa = none := Evl.fresh_back r.ex hpa
                  have zp1 : Z1 pa = none := by
                    cases z : Z1 pa with
                    | none => rfl
                    | some u =>
                      rcases a1.nz pa u z with y | y | y
                      · rw [zp0] at y; cases y
                      · exact absurd y np0
                      · rw [upd_same] at y; cases y
                  have np1 : ¬ Owns σ e1 pa := fun z => by
                    rcases a1.ow pa (.inl z) with y | y
                    · exact np0 y
                    · rw [upd_same] at y; cases y
                  have wr : Adv (fun x => x = pa) Z1 H1 (fun x => x = pa) Z1 (upd H1 pa (SetM X.prog X.w pa [.inl i])) := Adv.write r1.ex rfl zp1
                  have r1' : REnv T Z1 (upd H1 pa (SetM X.prog X.w pa [.inl i])) σ e1 := r1.step wr fun q hq e => np1 (by rw [← e]; exact hq)
                  refine ⟨Z1, e1, r1', ?_⟩
                  rw [ei]
                  intro Z2 H2 J a2 r2 gi _
                  have hp2 : H2 pa = some (SetM X.prog X.w pa [.inl i]) := a2.fr pa _ upd_same np1
                  have zp2 : Z2 pa = none := by
                    cases z : Z2 pa with
                    | none => rfl
                    | some u =>
                      rcases a2.nz pa u z with y | y | y
                      · rw [zp1] at y; cases y
                      · exact absurd y np1
                      · rw [upd_same] at y; cases y
                  have np2 : ¬ Owns σ e2 pa := fun z => by
                    rcases a2.ow pa (.inl z) with y | y
                    · exact np1 y
                    · rw [upd_same] at y; cases y
                  intro D hD
                  have neD : pa ≠ D := fun e => by rw [← e, hp2] at hD; cases hD
                  have w0 := r2.wip (own.map (·.2))
                  have m0 : MkS X.prog X.w (SetM X.prog X.w pa [.inl i]) pa ((srtW ns).map Sum.inl) T (Owns (wipe σ (own.map (·.2))) (wipE e2 (own.map (·.2)))) Z2 H2 D (wipe σ (own.map (·.2))) (wipE e2 (own.map (·.2))) [] Z2 (upd H2 D (SetM X.prog X.w D [])) :=
                    ⟨w0.1.newO hD, Adv.newO r2.ex hD, ⟨[], upd_same, List.nodup_nil, fun x => by simp⟩, Evl.fresh_back r2.ex hD, Owns.fresh w0.1 hD, by rw [upd_ne neD]; exact hp2, zp2, fun z => np2 (w0.2 pa z).1, neD⟩
                  have fits : ∀ d ∈ [] ++ xs, InL ((srtW ns).map Sum.inl) d := fun d hd => by
                    rw [List.nil_append, hxs] at hd
                    obtain ⟨n, hn, rfl⟩ := List.mem_map.mp hd
                    exact ⟨.inl n, List.mem_map_of_mem (mem_srtU.mpr hn), rfl⟩
                  refine lcS_core (Lk := none') (hg X.s_0 H 0 [] []).2 (actS_in hv (fun _ _ _ z => z) (fun _ _ _ z => z) (hg1 X.s_0 H 0 [] []).2 (actS_one (by rw [List.length_map]; exact Nat.lt_of_le_of_lt (Nat.succ_le_succ few) (by decide)) (fun _ _ _ z => z) (fun _ _ _ z => z))) gi ex_none (fun _ _ h => by cases h) m0 er fits fun Z' H' z' m' => ?_
                  obtain ⟨e', rfl⟩ := lcGoA_wip er
                  obtain ⟨c1, c2, c3⟩ := REnv.rst (P := fun x => x = D) r2 m'.r m'.a fun x e => by rw [e]; exact hD
                  obtain ⟨ks, h1, h2, h3⟩ := m'.hD
                  have hks : ∀ x, x ∈ ks ↔ ∃ n ∈ ns, x = .inl n := fun x => by
                    rw [h3, List.nil_append, hxs]
                    constructor
                    · rintro ⟨d, hd, e⟩
                      obtain ⟨n, hn, rfl⟩ := List.mem_map.mp hd
                      exact ⟨n, hn, (Option.some.inj e).symm⟩
                    · rintro ⟨n, hn, rfl⟩
                      exact ⟨.int n, List.mem_map_of_mem hn, rfl⟩
                  have hkl : ks.length ≤ 19 := by
                    have := nodup_le (L := (srtW ns).map Sum.inl) h2 fun x hx => by
                      obtain ⟨n, hn, rfl⟩ := (hks x).mp hx
                      exact List.mem_map_of_mem (mem_srtU.mpr hn)
                    rw [List.length_map] at this
                    omega
                  refine ⟨pa, D, [.inl i], ks, rfl, rfl, m'.hp, h1, fun e => neD e.symm, by simp, by show 1 ≤ 4; decide, by show 1 + ks.length ≤ 20; omega, fun ls p2 n1 n2 hp2n => ?_⟩
                  have hls : ∀ x, x ∈ ls ↔ x = .inl i ∨ ∃ n ∈ ns, x = .inl n := fun x => by rw [n2, hks, List.mem_singleton]
                  obtain ⟨us, rfl⟩ := allInl fun x hx => by
                    rcases (hls x).mp hx with rfl | ⟨n, _, rfl⟩
                    · exact ⟨_, rfl⟩
                    · exact ⟨_, rfl⟩
                  have hus : ∀ y : Int, y ∈ us ↔ y = i ∨ y ∈ ns := fun y => by
                    have z := hls (.inl y)
                    constructor
                    · intro hy
                      rcases z.mp (List.mem_map_of_mem hy) with e | ⟨n, hn, e⟩
                      · exact .inl (Sum.inl.inj e)
                      · exact .inr (by rw [Sum.inl.inj e]; exact hn)
                    · intro hy
                      obtain ⟨u, hu, e⟩ := List.mem_map.mp (z.mpr (hy.elim (fun e => .inl (by rw [e])) fun h => .inr ⟨y, h, rfl⟩))
                      rw [← Sum.inl.inj e]; exact hu
                  refine .inr ⟨p2, us, rfl, upd_same, fun ys p3 pm so hp3 => ?_⟩
                  have ny : ys.Nodup := pm.nodup_iff.mpr (nodup_unmap n1)
                  have eq : ys = srtW (i :: ns) := asc_eq ltW_irr ltW_tr (asc_of_le so ny) (asc_srtU ltW_tr ltW_tot) fun z => by
                    rw [show (z ∈ srtW (i :: ns) ↔ z ∈ i :: ns) from mem_srtU, pm.mem_iff, hus, List.mem_cons]
                  have total : Adv (Owns σ env) Z H (fun a => Owns σ (rstE e2 (wipE e' (own.map (·.2))) (own.map (·.2))) a) Z' H' := by
                    have b0 : Adv (Owns σ env) Z H (fun a => Owns σ env a ∨ a = pa) Z (upd H pa (SetM X.prog X.w pa [])) := Adv.newO r.ex hpa
                    have b1 : Adv (fun a => Owns σ env a ∨ a = pa) Z (upd H pa (SetM X.prog X.w pa [])) (fun a => Owns σ e1 a ∨ a = pa) Z1 H1 := ((a1.weak fun _ z => .inl z).more fun x z => .inl z).wid (P := fun x => x = pa) fun x z => .inr z
                    have b2 : Adv (fun a => Owns σ e1 a ∨ a = pa) Z1 H1 (fun a => Owns σ e1 a ∨ a = pa) Z1 (upd H1 pa (SetM X.prog X.w pa [.inl i])) := Adv.write r1.ex (.inr rfl) zp1
                    have b3 : Adv (fun a => Owns σ e1 a ∨ a = pa) Z1 (upd H1 pa (SetM X.prog X.w pa [.inl i])) (fun a => Owns σ e2 a) Z2 H2 := (a2.weak fun _ z => .inl z).more fun x z => .inl z
                    exact (((b0.trans b1).trans b2).trans b3).trans (c1.weak fun x z => .inl z)
                  have n : Now T σ (rstE e2 (wipE e' (own.map (·.2))) (own.map (·.2))) Z' H' (.ml ((srtW (i :: ns)).map .int)) Q := fun Z4 H4 v4 a4 r4 k4 x4 => p Z4 H4 v4 (total.trans a4) r4 k4 x4
                  refine (n.past c2 hp2n).ml (c2.newO hp2n) ?_ ?_ hp3
                  · rw [← eq]
                    exact shWholes
                  · rw [List.length_map]
                    have := nodup_le (L := i :: srtW ns) ny fun x hx => by
                      rw [eq] at hx
                      rcases List.mem_cons.mp (mem_srtU.mp hx) with e | e
                      · rw [e]; exact List.mem_cons_self
                      · exact List.mem_cons_of_mem _ (mem_srtU.mpr e)
                    rw [eq, List.length_cons] at this
                    exact Nat.le_trans this (Nat.le_trans (Nat.succ_le_succ few) (by decide))
                · cases eu
            | _ => simp [uniD] at eu
end
end Wc
namespace Wc
open PySem PySem.Spec PyProof.Rows L2
section
variable {P : Program} {w : World} {κ : Type} [DecidableEq κ] {kd : KeyKind P w κ}
theorem setG_loopL {A : Around} {I : Addr} {fp wr : List Addr} {G : Array GenState → Array GenState → Prop} {n : Nat} {Pv : Nat → Value → Prop} {St : Nat → Shared → Prop} {R : Result → Shared → Prop}
    (W : WalksS P w A.in1 I fp wr G n Pv St) (d : Addr) (df : d ∉ fp) (vs : List κ) (hn : n = vs.length) (L : List κ) (room : L.length + 1 < scanBound) (inL : ∀ k ∈ vs, k ∈ L) (what : ∀ i v, Pv i v → ∃ k, vs[i]? = some k ∧ kd.is k v = true ∧ v.scannable = true) :
    ∀ (m i : Nat) (s : Shared), n - i = m → i ≤ n → St i s → (∃ ks, SetG kd s.heap d ks ∧ ks.length ≤ i ∧ ∀ x, x ∈ ks ↔ x ∈ vs.take i) →
      (∀ s' ks, Moved (d :: wr) G s s' → SetG kd s'.heap d ks → ks.length ≤ n → (∀ x, x ∈ ks ↔ x ∈ vs) → R (.ok (.ret .none)) s') →
      codeAny (model P w) A (.builtin "set.update.loop" ⟨[.ref d, .ref I], []⟩) R s := by
  have dw : d ∉ wr := fun h => df (W.sub _ h)
  have sub' : ∀ b ∈ wr, b ∈ d :: wr := fun b hb => List.mem_cons_of_mem _ hb
  intro m
  induction m with
  | zero =>
    intro i s e1 e2 st ⟨ks, hS, hl, hk⟩ hR
    obtain rfl : i = n := by omega
    refine codeAny_builtin F.entry_set_update_loop ?_
    rw [Around.under_plainId F.plain_set_update_loop _]
    show wpAny _ A.in1 (pyNext (.ref I) >>= _) _ _ s
    refine wpAny_bind (W.done s _ _ st fun s' mv => ?_)
    show wpAny _ A.in1 (ret Value.none) _ _ s'
    rw [List.take_of_length_le (by omega)] at hk
    exact wpAny_pure (hR s' ks (mv.mono sub') (hS.keep fun o e => mv.heap d o dw e) hl hk)
  | succ m ih =>
    intro i s e1 e2 st ⟨ks, hS, hl, hk⟩ hR
    have lt : i < n := by omega
    refine codeAny_builtin F.entry_set_update_loop ?_
    rw [Around.under_plainId F.plain_set_update_loop _]
    show wpAny _ A.in1 (pyNext (.ref I) >>= _) _ _ s
    refine wpAny_bind (W.item i s _ _ lt st fun v s' pv st' mv => ?_)
    obtain ⟨k, ek, ik, sc⟩ := what i v pv
    have hS' : SetG kd s'.heap d ks := hS.keep fun o e => mv.heap d o dw e
    show wpAny _ A.in1 (holding [v] (setAdd d v) >>= _) _ _ s'
    refine wpAny_bind (wpAny_holding ?_)
    unfold setAdd
    refine wpAny_holding (wpAny_bind (kd.pyHash ik ?_))
    have hlL : ks.length ≤ L.length := by
      obtain ⟨_, _, _, _, _, _, _, _, nd, _⟩ := hS'
      exact nodup_le nd fun x hx => inL x (List.mem_of_mem_take ((hk x).mp hx))
    refine setG_put (s := { s' with toks := s'.toks + 1 }) hS' ik sc (by omega) fun h' ls sb hS2 hp => ?_
    have lls : ls.length ≤ i + 1 := by
      by_cases q : k ∈ ks
      · rw [if_pos q] at hp; rw [hp]; omega
      · rw [if_neg q] at hp; rw [hp.length_eq, List.length_cons]; omega
    have mls : ∀ x, x ∈ ls ↔ x ∈ vs.take (i + 1) := fun x => by
      rw [List.take_add_one, ek, List.mem_append, ← hk x]
      by_cases q : k ∈ ks
      · rw [if_pos q] at hp; rw [hp]
        simp only [Option.toList, List.mem_singleton]
        exact ⟨.inl, fun z => z.elim id fun z => z ▸ q⟩
      · rw [if_neg q] at hp; rw [hp.mem_iff, List.mem_cons]
        simp only [Option.toList, List.mem_singleton]
        exact Or.comm
    refine wpAny_pure ⟨plainId_quiet F.plain_set_update_loop _, ih (i + 1) _ (by omega) lt (W.frame _ s' _ _ st' (Nat.le_succ _) fun b hb o e => ?_) ⟨ls, hS2, lls, mls⟩ fun s2 k2 mv2 hS3 l3 m3 => ?_⟩
    · rw [sb.2 b (fun h : b = d => df (by rw [← h]; exact hb))]; exact e
    · refine hR s2 k2 (Moved.trans W.gtrans ((mv.mono sub').then_heap (Nat.le_succ _) fun b o hb e => ?_) mv2) hS3 l3 m3
      rw [sb.2 b (fun h : b = d => hb (by rw [h]; exact List.mem_cons_self))]; exact e
section
variable {A : Around} {E : Value → Shared → Prop} {s : Shared}
set_option maxRecDepth 100000 in
set_option maxHeartbeats 3200000 in
theorem set_of_listL {l : Addr} {xs : Array Value} (vs : List κ) {Q : Value → Shared → Prop} (hh : A.handled = none) (hl : s.heap.IsList l xs) (hz : xs.size = vs.length) (hat : ∀ (i : Nat) (v : Value), xs[i]? = some v → ∃ k, vs[i]? = some k ∧ kd.is k v = true ∧ v.scannable = true) (LL : List κ) (hb : LL.length + 1 < scanBound) (inL : ∀ k ∈ vs, k ∈ LL)
    (h : ∀ (h' : Heap) (tk : Nat) (ks : List κ), SetG kd h' s.heap.objs.size ks → ks.length ≤ vs.length → (∀ x, x ∈ ks ↔ x ∈ vs) → (∀ b o, s.heap.get? b = some o → h'.get? b = some o) → Q (.ref s.heap.objs.size) { s with heap := h', toks := tk }) :
    wpAny (model P w) A (call (.type "set") [.ref l]) Q E s := by
  obtain ⟨c, tl, hmro⟩ := F.called_set.mro
  have m1 := F.called_set.made
  have m2 := F.called_set.sub
  have m3 := F.called_set.notType
  have m4 := F.called_set.canCreate
  have m5 := F.typeCall_set_1 (.ref l)
  refine wpAny_call (codeAny_of_tree ?_)
  show wpAny _ _ (callAny (.type "set") _) _ _ _
  refine wpAny_pure ⟨Code.quiet_builtin _ (by decide +kernel), codeAny_builtin F.entry_type_call ?_⟩
  rw [Around.under_plain (weight_type_call_type "set" [.ref l] []) rfl]
  repeat (any_goals (first | assumption | wp_step))
  refine codeAny_mono (code_set_led1 (.ref l) (E := E) (Q₁ := fun obj s₁ => obj = .ref s.heap.objs.size ∧ s₁ = { s with heap := s.heap.push { cls := .type "set", dict := none, data := .set #[] 0 (.fresh 0 0 (!w.params.followText "set-order")) } }) ⟨rfl, rfl⟩) fun r s₁ hr => ?_
  rcases r with e | fl
  · exact hr
  cases fl with
  | ret obj =>
    obtain ⟨rfl, rfl⟩ := hr
    have hS : (s.heap.push { cls := .type "set", dict := none, data := .set #[] 0 (.fresh 0 0 (!w.params.followText "set-order")) }).get? s.heap.objs.size = some { cls := .type "set", dict := none, data := .set #[] 0 (.fresh 0 0 (!w.params.followText "set-order")) } := Heap.get?_push_size _ rfl
    have hT : Shared.TypeIs { s with heap := s.heap.push { cls := .type "set", dict := none, data := .set #[] 0 (.fresh 0 0 (!w.params.followText "set-order")) } } (.ref s.heap.objs.size) "set" := ⟨_, hS, rfl⟩
    have k1 := F.called_set.init.lookup
    have k2 := F.called_set.init.bind (.ref s.heap.objs.size)
    repeat (any_goals (first | assumption | wp_step))
    refine codeAny_mono (codeAny_call_builtin (R := wants (fun r s₂ => r = .none ∧ ∃ h' tk ks, s₂ = { s with heap := h', toks := tk } ∧ SetG kd h' s.heap.objs.size ks ∧ ks.length ≤ vs.length ∧ (∀ x, x ∈ ks ↔ x ∈ vs) ∧
        (∀ b o, s.heap.get? b = some o → h'.get? b = some o)) E) F.called_set.init.plain F.entry_set_init (check_set_init_1 hT ?_)) fun r₂ s₂ hr₂ => ?_
    · obtain ⟨ol, hol, hcl, nl, hdl⟩ := hl
      obtain ⟨ocls, odict, odata, oslots⟩ := ol
      simp only at hcl hdl
      subst hcl; subst hdl
      have q0 : (s.heap.push { cls := .type "set", dict := none, data := .set #[] 0 (.fresh 0 0 (!w.params.followText "set-order")) }).get? l = some { cls := .type "list", dict := odict, data := .seq xs nl, slots := oslots } := Heap.get?_push_of_some _ hol
      have q1 := F.sub_list_set
      have q2 := F.sub_list_frozenset
      have q3 : (Value.type "list" == Value.type "dict") = false := by decide
      have q4 : (s.heap.push { cls := .type "set", dict := none, data := .set #[] 0 (.fresh 0 0 (!w.params.followText "set-order")) }).IsList l xs := ⟨_, q0, rfl, nl, rfl⟩
      have hlS : l < s.heap.objs.size := Heap.lt_size hol
      have hh3 : A.in1.in1.in1.handled = none := by simp [hh]
      unfold Builtin.«set.__init__» noKeywords Builtin.Frozenset.updateFrom
      generalize hPI : pyIter = PI
      wp_walk
      subst hPI
      refine wpAny_pyIter_list q4 ?_
      refine wpAny_bind (wpAny_runValue ?_)
      have n1 : l ≠ (s.heap.push { cls := .type "set", dict := none, data := .set #[] 0 (.fresh 0 0 (!w.params.followText "set-order")) }).objs.size := by rw [Heap.size_push]; exact Nat.ne_of_lt (Nat.lt_succ_of_lt hlS)
      have n2 : s.heap.objs.size ∉ [(s.heap.push { cls := .type "set", dict := none, data := .set #[] 0 (.fresh 0 0 (!w.params.followText "set-order")) }).objs.size, l] := by
        rw [Heap.size_push]
        simp only [List.mem_cons, List.not_mem_nil, or_false, not_or]
        exact ⟨Nat.ne_of_lt (Nat.lt_succ_self _), Nat.ne_of_gt hlS⟩
      refine setG_loopL (kd := kd) ((Walks.list hh3 _ l n1 xs).toS) s.heap.objs.size n2 vs hz LL hb inL hat (xs.size - 0) 0 _ (by omega) (Nat.zero_le _)
        ⟨⟨_, Heap.get?_push_size _ rfl, rfl, rfl⟩, q4.push _⟩ ⟨[], setG_new (Heap.get?_push_of_some _ hS), Nat.le_refl 0, fun x => by simp⟩ fun s' ks hm hS' hc' hk' => ?_
      obtain ⟨h', g2, d', tk', os'⟩ := s'
      obtain rfl : g2 = s.gens := hm.gens
      obtain rfl : d' = s.drawn := hm.drawn
      obtain rfl : os' = s.os := hm.os
      show wpAny _ _ _ _ _ _
      refine wpAny_pure ?_
      show wpAny _ _ (ret Value.none) _ _ _
      rw [hz] at hc'
      refine wpAny_pure ⟨rfl, h', tk', ks, rfl, hS', hc', hk', fun b o e => ?_⟩
      have b0 : b < s.heap.objs.size := Heap.lt_size e
      refine hm.heap b o ?_ (Heap.get?_push_of_some _ (Heap.get?_push_of_some _ e))
      rw [Heap.size_push]
      simp only [List.mem_cons, List.not_mem_nil, or_false, not_or]
      exact ⟨Nat.ne_of_lt b0, Nat.ne_of_lt (Nat.lt_succ_of_lt b0)⟩
    · rcases r₂ with e | fl₂
      · exact hr₂
      cases fl₂ with
      | ret r =>
        obtain ⟨rfl, h', tk, ks, rfl, hS', hc', hk', hkeep⟩ := hr₂
        repeat (any_goals (first | assumption | wp_step))
        exact h _ _ _ hS' hc' hk' hkeep
      | _ => exact hr₂.elim
  | _ => exact hr.elim
end
end
section
variable {X : Cx} {T : Cl} {Wx : WX}
def rSetOfL (X : Cx) : List V → Hp → VK → Prop := fun xs H Q => ∃ (l : Addr) (ks L : List Key), xs = [.ref l] ∧ SqL X.K H l (ks.map kV) ∧ L.length + 1 < scanBound ∧ (∀ k ∈ ks, k ∈ L) ∧
  ∀ (ls : List Key) (p : Addr), ls.Nodup → (∀ x, x ∈ ls ↔ x ∈ ks) → H p = none → Q (.ref p) (upd H p (SetM X.prog X.w p ls))
theorem cr_setOfL (hc : X.calm = true) : CallR X (.type "set") (rSetOfL X) := by
  intro pins s σ H xs us Q I r h
  obtain ⟨l, ks, L, rfl, hs, hb, inL, q⟩ := h
  obtain ⟨its, rv, hl, _⟩ := I.list hs
  rw [Vals.ref1 r]
  have hlen : its.length = ks.length := by
    have z := rv.length
    rw [List.length_map] at z
    exact z.symm
  refine set_of_listL (kd := mixKind X.prog X.w) ks (I.ok.hd hc) hl.isList (by simpa using hlen) (fun i v e => ?_) L hb inL fun h' tk ls R _ hm hk => ?_
  · obtain ⟨k, e1, e2⟩ := keysAt rv i v (by simpa using e)
    exact ⟨k, e1, kV_is e2, key_scan e2⟩
  · exact ⟨.ref s.heap.objs.size, upd H s.heap.objs.size (SetM X.prog X.w s.heap.objs.size ls), I.laid (t' := tk) hk (Nat.le_refl _) (setM_new R), rfl, q ls _ (setG_nodup R) hm (I.hok.fresh (Nat.le_refl _))⟩
def sortSet3 : D → Option W
  | .lst xs => (asIs xs).bind fun ns => if (srtW ns).length + 1 < scanBound then some (.ml ((srtW ns).map .int)) else none
  | _ => none
theorem sSortSet3 : S1 T (fun v H Q => rSetOfL X [v] H fun y H2 => rSortG X [y] H2 Q) sortSet3 := by
  intro Z H σ env v d w Q r hd ho n
  cases d <;> simp only [sortSet3] at ho <;> try cases ho
  rename_i xs
  obtain ⟨a, vs, rfl, h1, hl, s⟩ := hd
  cases e2 : asIs xs with
  | none => rw [e2] at ho; cases ho
  | some ns =>
    rw [e2, Option.bind_some] at ho
    split at ho
    · rename_i sz
      cases ho
      have ev := asIs_ok s e2
      have zl : xs.length = ns.length := by rw [← s.length, ev, List.length_map]
      rw [zl] at hl
      refine ⟨a, ns.map Sum.inl, (srtW ns).map Sum.inl, rfl, ?_, by rw [List.length_map]; exact sz, fun k hk => ?_, fun ls b nd hm hb => ?_⟩
      · rw [List.map_map]
        show SqL X.K H a (ns.map V.int)
        rw [← ev]
        exact SqL.of h1
      · obtain ⟨y, hy, rfl⟩ := List.mem_map.mp hk
        exact List.mem_map_of_mem (mem_srtU.mpr hy)
      · obtain ⟨us, rfl⟩ := allInl fun x hx => by
          obtain ⟨y, _, e⟩ := List.mem_map.mp ((hm x).mp hx)
          exact ⟨y, e.symm⟩
        have hmu : ∀ y : Int, y ∈ us ↔ y ∈ ns := fun y => by
          constructor
          · intro hy
            obtain ⟨z, hz, e⟩ := List.mem_map.mp ((hm _).mp (List.mem_map_of_mem hy))
            obtain rfl : z = y := Sum.inl.inj e
            exact hz
          · intro hy
            obtain ⟨z, hz, e⟩ := List.mem_map.mp ((hm _).mpr (List.mem_map_of_mem hy))
            obtain rfl : z = y := Sum.inl.inj e
            exact hz
        refine .inr ⟨b, us, rfl, upd_same, fun ys c pm so hc => ?_⟩
        have ny : ys.Nodup := pm.nodup_iff.mpr (nodup_unmap nd)
        have eq : ys = srtW ns := asc_eq ltW_irr ltW_tr (asc_of_le so ny) (asc_srtU ltW_tr ltW_tot) fun z => by
          rw [show (z ∈ srtW ns ↔ z ∈ ns) from mem_srtU, pm.mem_iff]
          exact hmu z
        refine (n.past r hb).ml (r.newO hb) ?_ ?_ hc
        · rw [← eq]
          exact shWholes
        · rw [List.length_map]
          exact Nat.le_trans srtU_len hl
    · cases ho
variable {κ : Kind W V} {inj : W → W}
theorem pd_sortSet3 {α : Type} {κ : Kind α V} {inj : W → α} {e : Expr} {f : M D} {p p2 pos pos2 : Pos} (F : Fin κ inj) (hc : X.calm = true) (hg : Gl X "sorted") (hm : X.mg "sorted" = none) (hg2 : Gl X "set") (hm2 : X.mg "set" = none) (ha : PE X e (TF T Wx KV f))
    (hs : starEach [.Call (.Name "set" p2) [e] [] pos2] X.env = (false, eval (.Call (.Name "set" p2) [e] [] pos2) X.env) :: starEach [] X.env := by rfl) (hs2 : starEach [e] X.env = (false, eval e X.env) :: starEach [] X.env := by rfl) :
    PE X (.Call (.Name "sorted" p) [.Call (.Name "set" p2) [e] [] pos2] [] pos) (TF T Wx κ (m1 inj sortSet3 f)) :=
  peImp (pe_callB (cr_sortG hc) hg hm (by decide +kernel) (pa_cons (pe_callTy (cr_setOfL hc) hg2 hm2 (by decide +kernel) (pa_cons ha pa_nil hs2) (by decide) (by decide) hs2) pa_nil hs) (by decide) (by decide) hs) fun _ _ _ q => tf1 F sSortSet3 q
end
theorem w_sortOr {f : M D} {it : M (List D)} {own : List Nat} {t : Tg} {A : M (List D)} {e : Env'} {Q : W → Env' → Prop} (h : Wp (f e) fun d e1 => Wp (it e1) fun items e2 => Wp (lcGoA own t A items e2) fun xs e3 => ∃ w, uniD d xs = some w ∧ Q w (rstE e2 e3 own)) : Wp (sortOrM f it own t A e) Q := by
  obtain ⟨d, e1, h1, h⟩ := h.get
  obtain ⟨items, e2, h2, h⟩ := h.get
  obtain ⟨xs, e3, h3, w, h4, h5⟩ := h.get
  unfold sortOrM
  rw [h1]
  dsimp only
  rw [h2]
  dsimp only
  rw [h3]
  dsimp only
  rw [h4]
  exact .mk h5
instance s_sortOr {f : M D} {it : M (List D)} {own : List Nat} {t : Tg} {A : M (List D)} {e : Env'} {Q : W → Env' → Prop} : WStep (Wp (sortOrM f it own t A e) Q) (Wp (f e) fun d e1 => Wp (it e1) fun items e2 => Wp (lcGoA own t A items e2) fun xs e3 => ∃ w, uniD d xs = some w ∧ Q w (rstE e2 e3 own)) := ⟨w_sortOr⟩
end Wc
namespace Wc.K26
open PySem
def F_l_bag : M W := fnM 1 1 [] (retM (lstM id [(kc (.int 0)), (kc (.int 1234567891)), (kc (.int 0)), (fz ((itM itL (slN W.view 0 noE (someE (kc (.int 63))))) >>= lcM [1] (.nm 1) yesM (m1 W.view absD (pk 1))))]))
def F_l_take : M W := fnM 2 5 [2, 3, 4, 5, 6] (seqM (ifM (tbM (m2 W.view eqW (m2n W.view ixD 0 (kc (.int 0))) (kc (.int 0)))) (seqM (asgM 2 (lf (kc (.int 0)))) (seqM (ifM (tbM (m2 W.view ltD (m2n W.view ixD 0 (kc (.int 2))) (m1 W.view lenD (m2n W.view ixD 0 (kc (.int 3)))))) (asgM 2 (m2 id ixD (m2n W.view ixD 0 (kc (.int 3))) (m2n W.view ixD 0 (kc (.int 2))))) nxM) (seqM (augI 0 (kc (.int 2)) (kc (.int 1))) (seqM (ifM (tbM (m2n W.view geD 2 (kc (.int 1000000000000000000)))) (setI 0 (kc (.int 0)) (nm 2)) nxM) (seqM (asgM 3 (m2 id addD (m2 W.view addD (m2 W.view mulD (m2n W.view ixD 0 (kc (.int 1))) (kc (.int 48271))) (m2 W.view modD (m1 W.view intD (pk 2)) (kc (.int 2147483647)))) (m2 W.view mulD (kc (.int 7919)) (m2n W.view ixD 0 (kc (.int 2)))))) (setI 0 (kc (.int 1)) (m2 W.view modD (m1 W.view intD (pk 3)) (kc (.int 2147483647))))))))) nxM) (seqM (ifM (tbM (m2 W.view gtD (m2n W.view ixD 0 (kc (.int 0))) (kc (.int 0)))) (seqM (asgM 4 (m2 id modD (m1 W.view intD (m2n W.view ixD 0 (kc (.int 0)))) (pk 1))) (seqM (setI 0 (kc (.int 0)) (m2 W.view fdivD (m1 W.view intD (m2n W.view ixD 0 (kc (.int 0)))) (pk 1))) (retM (mv 4)))) nxM) (seqM (asgM 5 (m2 id modD (m1 W.view intD (m2 W.view mulD (m2 W.view addD (m2n W.view ixD 0 (kc (.int 1))) (kc (.int 1))) (kc (.int 39373)))) (kc (.int 1000000007)))) (seqM (asgM 6 (m2 id modD (m1 W.view intD (m2 W.view mulD (m2 W.view modD (m1 W.view intD (m2n W.view mulD 5 (pk 5))) (kc (.int 998244353))) (kc (.int 30011)))) (kc (.int 998244353)))) (retM (m2 id modD (m1 W.view intD (m2n W.view fdivD 6 (kc (.int 7)))) (pk 1)))))))
def F_l_signs : M W := fnM 1 0 [] (retM (m2 id ixD (lstM W.view [(kc (.str [97, 98])), (kc (.str [97, 98, 99])), (kc (.str [120, 122])), (kc (.str [98, 100, 102, 104, 106, 108])), (kc (.str [109, 110, 111, 122])), (kc (.str [97, 121])), (kc (.str [99, 101, 103, 107, 119]))]) (fz (callM [.inl 0, .inr (kc (.int 7))] F_l_take))))
def F_l_word : M W := fnM 3 1 [] (retM (m1 id (joinD []) (fz ((itM itR1 (nm 2)) >>= lcM [3] (.nm 3) yesM (m2n W.view ixD 1 (fz (callM [.inl 0, .inr (m1 W.view lenD (pk 1))] F_l_take)))))))
def F_l_plain_token : M W := fnM 4 2 [4, 5] (seqM (par2 4 5 (callM [.inl 0, .inr (kc (.int 7))] F_l_take) (m2 id addD (kc (.int 1)) (fz (callM [.inl 0, .inl 3] F_l_take)))) (seqM (ifM (andM (tbM (m2n W.view ltD 4 (kc (.int 3)))) (tbM (m2n W.view gtD 2 (kc (.int 0))))) (retM (tupM id [(kc (.str [99, 111, 112, 121])), (m2 W.view addD (kc (.int 1)) (fz (callM [.inl 0, .inl 2] F_l_take))), (nm 5)])) nxM) (retM (ifxM (tbM (m2n W.view eqW 4 (kc (.int 3)))) (tupM id [(kc (.str [102, 108, 117, 115, 104]))]) (tupM id [(kc (.str [116, 101, 120, 116])), (fz (callM [.inl 0, .inl 1, .inr (m2 W.view min2D (nm 5) (kc (.int 5)))] F_l_word))])))))
def F_l_size : M W := fnM 1 0 [] (seqM (ifM (tbM (m2 W.view eqW (m2n W.view ixD 0 (kc (.int 0))) (kc (.str [116, 101, 120, 116])))) (retM (m1 id lenD (m2n W.view ixD 0 (kc (.int 1))))) nxM) (retM (ifxM (tbM (m2 W.view inW (m2n W.view ixD 0 (kc (.int 0))) (tupM W.view [(kc (.str [97, 110, 121])), (kc (.str [102, 108, 117, 115, 104]))]))) (m1 id (selD [97, 110, 121] [102, 108, 117, 115, 104] 1 0) (m2n W.view ixD 0 (kc (.int 0)))) (m2n id ixD 0 (kc (.int 2))))))
def F_l_kept : M W := fnM 3 2 [3, 4] (seqM (asgM 3 (lf (nm 2))) (seqM (forN 0 (.nm 4) (asgM 3 (ifxM (tbM (m2 W.view eqW (m2n W.view ixD 4 (kc (.int 0))) (kc (.str [102, 108, 117, 115, 104])))) (lf (kc (.int 0))) (m2 id min2D (nm 1) (m2n W.view addD 3 (fz (callM [.inl 4] F_l_size))))))) (retM (mv 3))))
def F_l_blocks : M W := fnM 4 7 [4, 5, 6, 7, 8, 9, 10] (seqM (par3 4 5 6 (lstM id []) (lf (kc (.int 0))) (m2 id ixD (lstM W.view [(kc (.int 2)), (kc (.int 3)), (kc (.int 5)), (kc (.int 10))]) (fz (callM [.inl 0, .inr (kc (.int 4))] F_l_take)))) (seqM ((itM itR1 (nm 3)) >>= forM (.nm 7) (seqM (asgM 8 (lstM id [])) (seqM ((itM itR1 (fz (callM [.inl 0, .inr (kc (.int 4))] F_l_take))) >>= forM (.nm 9) (seqM (asgM 10 (callM [.inl 0, .inl 1, .inl 5, .inl 6] F_l_plain_token)) (seqM (asgM 5 (callM [.inr (lstM W.view [(nm 10)]), .inl 2, .inl 5] F_l_kept)) (drpM (mt1 8 appOp (nm 10)))))) (drpM (mt1 4 appOp (nm 8)))))) (retM (mv 4))))
def F_rises : M W := fnM 1 2 [] (retM (m1 id allD (fz ((itM2 itZs (nm 0) (slN W.view 0 (someE (kc (.int 1))) noE)) >>= lcM [1, 2] (.tp [(.nm 1), (.nm 2)]) yesM (m2n W.view ltD 1 (pk 2))))))
def F_is_signs : M W := fnM 1 1 [] (seqM (ifM (orM (notM (tstM (m1 W.view (isiD "str") (pk 0)))) (notM (tbM (chM leD leD (kc (.int 2)) (m1 W.view lenD (pk 0)) (kc (.int 6)))))) (retM (lf (kc (.bl false)))) nxM) (retM (lf (andV (m1 W.view allD (fz ((itM itS (nm 0)) >>= lcM [1] (.nm 1) yesM (m2n W.view inW 1 (kc (.str [97, 98, 99, 100, 101, 102, 103, 104, 105, 106, 107, 108, 109, 110, 111, 112, 113, 114, 115, 116, 117, 118, 119, 120, 121, 122])))))) (fz (callM [.inl 0] F_rises))))))
def F_is_integer : M W := fnM 1 0 [] (retM (lf (andV (m1 W.view (isiD "int") (pk 0)) (notV (m1 W.view (isiD "bool") (pk 0))))))
def F_is_width : M W := fnM 1 0 [] (retM (lf (andV (fz (callM [.inl 0] F_is_integer)) (chM leD leD (kc (.int 1)) (nm 0) (kc (.int 12))))))
def F_Reader_init : M W := fnM 3 0 [] (seqM (ifM (notM (tstM (fz (callM [.inl 1] F_is_signs)))) stuck nxM) (seqM (ifM (notM (tstM (fz (callM [.inl 2] F_is_width)))) stuck nxM) (seqM (setF 0 0 "its_signs" (nm 1)) (seqM (setF 0 0 "its_width" (nm 2)) (seqM (setF 0 0 "its_text" (kc (.str []))) (setF 0 0 "its_number" (kc (.int 0))))))))
def F_Reader_copied : M W := fnM 1 1 [1] (seqM (asgM 1 (makeM 0 [.inr (m1 W.view (fldD 0 "its_signs") (pk 0)), .inr (m1 W.view (fldD 0 "its_width") (pk 0))] F_Reader_init)) (seqM (setF 1 0 "its_text" (m1 W.view (fldD 0 "its_text") (pk 0))) (seqM (setF 1 0 "its_number" (m1 W.view (fldD 0 "its_number") (pk 0))) (retM (mv 1)))))
def F_is_text : M W := fnM 2 1 [] (retM (lf (andV (m1 W.view (isiD "str") (pk 1)) (m1 W.view allD (fz ((itM itS (nm 1)) >>= lcM [2] (.nm 2) yesM (m2n W.view inW 2 (pk 0))))))))
def F_is_choice : M W := fnM 2 0 [] (retM (lf (andV (fz (callM [.inl 0, .inl 1] F_is_text)) (andV (m2n W.view neW 1 (kc (.str []))) (fz (callM [.inl 1] F_rises))))))
def F_is_run : M W := fnM 1 0 [] (seqM (ifM (orM (tbM (m2 W.view neW (m1 W.view lenD (pk 0)) (kc (.int 3)))) (notM (tstM (fz (callM [.inr (m2n W.view ixD 0 (kc (.int 1)))] F_is_width))))) (retM (lf (kc (.bl false)))) nxM) (retM (lf (andV (fz (callM [.inr (m2n W.view ixD 0 (kc (.int 2)))] F_is_integer)) (chM leD leD (kc (.int 1)) (m2n W.view ixD 0 (kc (.int 2))) (kc (.int 40)))))))
def F_is_token : M W := fnM 2 1 [2] (seqM (ifM (orM (notM (tstM (m1 W.view (isiD "tuple") (pk 1)))) (orM (tbM (m2n W.view eqW 1 (tupM W.view []))) (notM (tstM (m1 W.view (isiD "str") (m2n W.view ixD 1 (kc (.int 0)))))))) (retM (lf (kc (.bl false)))) nxM) (seqM (asgM 2 (m2n id ixD 1 (kc (.int 0)))) (seqM (ifM (tbM (m2n W.view eqW 2 (kc (.str [116, 101, 120, 116])))) (retM (lf (andV (m2 W.view eqW (m1 W.view lenD (pk 1)) (kc (.int 2))) (andV (fz (callM [.inl 0, .inr (m2n W.view ixD 1 (kc (.int 1)))] F_is_text)) (chM leD leD (kc (.int 1)) (m1 W.view lenD (m2n W.view ixD 1 (kc (.int 1)))) (kc (.int 40))))))) nxM) (seqM (ifM (tbM (m2n W.view eqW 2 (kc (.str [97, 110, 121])))) (retM (lf (andV (m2 W.view eqW (m1 W.view lenD (pk 1)) (kc (.int 2))) (fz (callM [.inl 0, .inr (m2n W.view ixD 1 (kc (.int 1)))] F_is_choice))))) nxM) (seqM (ifM (tbM (m2n W.view inW 2 (tupM W.view [(kc (.str [99, 111, 112, 121])), (kc (.str [115, 97, 121]))]))) (retM (callM [.inl 1] F_is_run)) nxM) (retM (m2n id eqW 1 (tupM W.view [(kc (.str [102, 108, 117, 115, 104]))]))))))))
def F_is_plain : M W := fnM 2 0 [] (retM (lf (andV (fz (callM [.inl 0, .inl 1] F_is_token)) (m2 W.view inW (m2n W.view ixD 1 (kc (.int 0))) (tupM W.view [(kc (.str [116, 101, 120, 116])), (kc (.str [99, 111, 112, 121])), (kc (.str [102, 108, 117, 115, 104]))])))))
def F_is_readable : M W := fnM 3 0 [] (retM (lf (andV (fz (callM [.inl 0, .inl 2] F_is_plain)) (orV (m2 W.view neW (m2n W.view ixD 2 (kc (.int 0))) (kc (.str [99, 111, 112, 121]))) (m2 W.view leD (m2n W.view ixD 2 (kc (.int 1))) (pk 1))))))
def F_Reader_note : M W := fnM 2 0 [] (seqM (setF 0 0 "its_text" (m2 W.view iaddD (m1 W.view (fldD 0 "its_text") (pk 0)) (pk 1))) (seqM (setF 0 0 "its_number" (m2 W.view min2D (m1 W.view (fldD 0 "its_width") (pk 0)) (m2 W.view addD (m1 W.view (fldD 0 "its_number") (pk 0)) (m1 W.view lenD (pk 1))))) (retM (lf (nm 1)))))
def F_copied_signs : M W := fnM 3 2 [3, 4] (seqM (asgM 3 (lf (kc (.str [])))) (seqM ((itM itR1 (nm 2)) >>= forM (.nm 4) (asgM 3 (m2n id iaddD 3 (m2 W.view ixD (m2n W.view addD 0 (pk 3)) (m2 W.view subD (m2 W.view addD (m1 W.view lenD (pk 0)) (pk 4)) (pk 1)))))) (retM (mv 3))))
def F_Reader_kept : M W := fnM 1 0 [] (retM (slM id (m1 W.view (fldD 0 "its_text") (pk 0)) (someE (m2 W.view subD (m1 W.view lenD (m1 W.view (fldD 0 "its_text") (pk 0))) (m1 W.view (fldD 0 "its_number") (pk 0)))) noE))
def F_Reader_read : M W := fnM 2 2 [2, 3] (seqM (ifM (notM (tstM (fz (callM [.inr (m1 W.view (fldD 0 "its_signs") (pk 0)), .inr (m1 W.view (fldD 0 "its_width") (pk 0)), .inl 1] F_is_readable)))) stuck nxM) (seqM (ifM (tbM (m2 W.view eqW (m2n W.view ixD 1 (kc (.int 0))) (kc (.str [102, 108, 117, 115, 104])))) (seqM (setF 0 0 "its_number" (kc (.int 0))) (retM (lf (kc (.str []))))) nxM) (seqM (ifM (tbM (m2 W.view eqW (m2n W.view ixD 1 (kc (.int 0))) (kc (.str [116, 101, 120, 116])))) (retM (methM 0 "note" 0 [.inr (m2n W.view ixD 1 (kc (.int 1)))] F_Reader_note)) nxM) (seqM (asgT (.tp [(.nm 2), (.nm 3)]) (slN W.view 1 (someE (kc (.int 1))) noE)) (seqM (ifM (tbM (m2n W.view gtD 2 (m1 W.view (fldD 0 "its_number") (pk 0)))) stuck nxM) (retM (methM 0 "note" 0 [.inr (fz (callM [.inr (fz (methM 0 "kept" 0 [] F_Reader_kept)), .inl 2, .inl 3] F_copied_signs))] F_Reader_note)))))))
def F_Reader_read_all : M W := fnM 2 3 [2, 3] (seqM (asgM 2 (methM 0 "copied" 0 [] F_Reader_copied)) (seqM (asgM 3 (m1 id (joinD []) (fz (lcN 1 [4] (.nm 4) yesM (fz (methM 0 "read" 2 [.inl 4] F_Reader_read)))))) (seqM (setF 0 0 "its_text" (m1 W.view (fldD 0 "its_text") (pk 2))) (seqM (setF 0 0 "its_number" (m1 W.view (fldD 0 "its_number") (pk 2))) (retM (mv 3))))))
def F_block_texts : M W := fnM 3 2 [3] (seqM (asgM 3 (makeM 0 [.inl 0, .inl 1] F_Reader_init)) (retM (lcN 2 [4] (.nm 4) yesM (fz (methM 0 "read_all" 3 [.inl 4] F_Reader_read_all)))))
def F_l_backs : M W := fnM 1 4 [1, 2, 3, 4] (seqM (asgM 1 (lstM id [])) (seqM ((itM itR1 (m1 W.view lenD (pk 0))) >>= forM (.nm 2) ((itM itL (m2n W.view ixD 0 (pk 2))) >>= forM (.nm 3) ((itM itR1 (fz (callM [.inl 3] F_l_size))) >>= forM (.nm 4) (drpM (mt1 1 appOp (tupM W.view [(nm 2), (ifxM (tbM (m2 W.view eqW (m2n W.view ixD 3 (kc (.int 0))) (kc (.str [99, 111, 112, 121])))) (m2 W.view subD (m1 W.view lenD (pk 1)) (m2n W.view ixD 3 (kc (.int 1)))) (kc .non))])))))) (retM (mv 1))))
def F_l_needed : M W := fnM 2 5 [2, 3, 4, 5, 6] (seqM (par2 2 3 (callM [.inl 0] F_l_backs) (lstM id [(nm 1)])) (seqM ((itM itR1 (m1 W.view lenD (pk 2))) >>= forM (.nm 4) (seqM (asgT (.tp [(.nm 5), (.nm 6)]) (m2n W.view ixD 2 (pk 4))) (whilF (fun _ => FUEL) (andM (tbM (m1 W.view notND (pk 5))) (tbM (m2 W.view eqW (m2 W.view ixD (m2n W.view ixD 2 (pk 4)) (kc (.int 0))) (pk 1)))) (seqM (drpM (mt1 3 appOp (nm 5))) (asgT (.tp [(.nm 5), (.nm 6)]) (ifxM (tbM (m1 W.view notND (pk 6))) (m2n W.view ixD 2 (pk 6)) (tupM W.view [(kc .non), (kc .non)]))))))) (retM (m1 id sortSet3 (pk 3)))))
def F_size : M W := fnM 1 0 [] (seqM (ifM (tbM (m2 W.view eqW (m2n W.view ixD 0 (kc (.int 0))) (kc (.str [116, 101, 120, 116])))) (retM (m1 id lenD (m2n W.view ixD 0 (kc (.int 1))))) nxM) (seqM (ifM (tbM (m2 W.view eqW (m2n W.view ixD 0 (kc (.int 0))) (kc (.str [97, 110, 121])))) (retM (lf (kc (.int 1)))) nxM) (retM (ifxM (tbM (m2 W.view eqW (m2n W.view ixD 0 (kc (.int 0))) (kc (.str [102, 108, 117, 115, 104])))) (lf (kc (.int 0))) (m2n id ixD 0 (kc (.int 2)))))))
def F_sign_sources : M W := fnM 1 5 [1, 2, 3, 4, 5] (seqM (asgM 1 (lstM id [])) (seqM ((itM itE (nm 0)) >>= forM (.tp [(.nm 2), (.nm 3)]) ((itM itL (nm 3)) >>= forM (.nm 4) ((itM itR1 (fz (callM [.inl 4] F_size))) >>= forM (.nm 5) (drpM (mt1 1 appOp (tupM W.view [(nm 2), (ifxM (tbM (m2 W.view eqW (m2n W.view ixD 4 (kc (.int 0))) (kc (.str [99, 111, 112, 121])))) (m2 W.view subD (m1 W.view lenD (pk 1)) (m2n W.view ixD 4 (kc (.int 1)))) (kc .non))])))))) (retM (mv 1))))
def F_blocks_behind : M W := fnM 2 2 [2, 3, 1] (seqM (asgM 2 (lstM id [])) (seqM (whilF (fun _ => FUEL) (tbM (m1 W.view notND (pk 1))) (seqM (asgT (.tp [(.nm 3), (.nm 1)]) (m2n W.view ixD 0 (pk 1))) (drpM (mt1 2 appOp (nm 3))))) (retM (mv 2))))
def F_needed : M W := fnM 4 5 [4, 5] (seqM (asgM 4 (callM [.inl 2] F_sign_sources)) (seqM (asgM 5 ((itM itE (nm 4)) >>= lcM [6, 7, 8] (.tp [(.nm 6), (.tp [(.nm 7), (.nm 8)])]) (tbM (m2n W.view eqW 7 (pk 3))) (nm 6))) (retM (sortOrM (nm 3) (itM itL (nm 5)) [6, 7] (.nm 6) (inA yesM [7] (itM itL (fz (callM [.inl 4, .inl 6] F_blocks_behind))) (.nm 7) (oneA yesM (nm 7)))))))
def F_l_alike : M W := fnM 2 0 [] (retM (lf (andV (m2n W.view eqW 0 (pk 1)) (m2 W.view eqW (m1 W.view reprD (pk 0)) (m1 W.view reprD (pk 1))))))
def F_Reader_lost : M W := fnM 2 0 [] (retM (methM 0 "note" 0 [.inr (m2 W.view mulD (kc (.str [63])) (pk 1))] F_Reader_note))
def F_spoilt : M W := fnM 4 5 [4, 5, 6, 7] (seqM (asgM 4 (makeM 0 [.inl 0, .inl 1] F_Reader_init)) (seqM (asgM 5 (lstM id [])) (seqM (forE 2 (.tp [(.nm 6), (.nm 7)]) (ifM (tbM (m2n W.view inW 6 (pk 3))) (drpM (mt1 5 appOp (fz (methM 0 "lost" 4 [.inr (m1 W.view sumD (fz ((itM itL (nm 7)) >>= lcM [8] (.nm 8) yesM (fz (callM [.inl 8] F_size)))))] F_Reader_lost)))) (drpM (mt1 5 appOp (fz (methM 0 "read_all" 4 [.inl 7] F_Reader_read_all)))))) (retM (mv 5)))))
def F_law : M W := fnM 1 14 [1, 2, 3, 4, 5, 6, 7, 8, 9, 10, 11, 12, 13] (seqM (asgM 1 (callM [.inl 0] F_l_bag)) (seqM ((itM itR1 (kc (.int 4))) >>= forM (.nm 2) (seqM (par2 3 4 (callM [.inl 1] F_l_signs) (m2 id addD (kc (.int 1)) (fz (callM [.inl 1, .inr (m2 W.view ixD (lstM W.view [(kc (.int 3)), (kc (.int 12))]) (fz (callM [.inl 1, .inr (kc (.int 2))] F_l_take)))] F_l_take)))) (seqM (asgM 5 (callM [.inl 1, .inl 3, .inl 4, .inr (m2 W.view addD (kc (.int 1)) (fz (callM [.inl 1, .inr (kc (.int 6))] F_l_take)))] F_l_blocks)) (seqM (ifM (tbM (m2n W.view eqW 2 (kc (.int 3)))) (par2 4 5 (lf (kc (.int 12))) (m2 id addD (lstM W.view [(lstM W.view [(tupM W.view [(kc (.str [116, 101, 120, 116])), (slM W.view (m2n W.view mulD 3 (kc (.int 6))) noE (someE (kc (.int 12))))])])]) (m2 W.view mulD (lstM W.view [(m2 W.view mulD (lstM W.view [(tupM W.view [(kc (.str [99, 111, 112, 121])), (kc (.int 12)), (kc (.int 40))])]) (kc (.int 6)))]) (kc (.int 3))))) nxM) (seqM (asgM 6 ((itM itL (nm 5)) >>= lcM [14] (.nm 14) yesM (m1 W.view listD (pk 14)))) (seqM (asgM 7 (callM [.inl 3, .inl 4, .inl 6] F_block_texts)) ((itM itR1 (m1 W.view lenD (pk 5))) >>= forM (.nm 8) (seqM (asgM 9 (callM [.inl 5, .inl 8] F_l_needed)) (seqM ((itM itR1 (kc (.int 2))) >>= forM (.nm 10) (seqM (asgM 11 (callM [.inl 3, .inl 4, .inl 6, .inl 8] F_needed)) (seqM (ifM (orM (notM (tstM (fz (callM [.inl 11, .inl 9] F_l_alike)))) (tbM (m2n W.view neW 6 (pk 5)))) (retM (lf (kc (.bl false)))) nxM) (drpM (mt1 11 appOp (kc (.int 0))))))) (seqM (asgM 12 ((itM itR1 (m1 W.view lenD (pk 5))) >>= lcM [13] (.nm 13) (tbM (m2n W.view niW 13 (pk 9))) (nm 13))) (seqM (ifM (tbM (m2 W.view neW (m2 W.view ixD (fz (callM [.inl 3, .inl 4, .inl 6, .inl 12] F_spoilt)) (pk 8)) (m2n W.view ixD 7 (pk 8)))) (retM (lf (kc (.bl false)))) nxM) ((itM itL (nm 9)) >>= forM (.nm 13) (ifM (andM (tbM (m2 W.view neW (m2n W.view ixD 7 (pk 8)) (kc (.str [])))) (tbM (m2 W.view niW (kc (.str [63])) (m2 W.view ixD (fz (callM [.inl 3, .inl 4, .inl 6, .inr (lstM W.view [(nm 13)])] F_spoilt)) (pk 8))))) (retM (lf (kc (.bl false)))) nxM))))))))))))) (retM (lf (kc (.bl true))))))
end Wc.K26
namespace Wc.K26
open PySem PySem.Spec PyProof.Rows L2
def top (i : Nat) : Stmt := PySem.Challenge.pw_windowcuts_k26_whole_blocks_needed.main.body.getD i (.Pass ⟨0, 0, 0, 0⟩)
abbrev s_l_bag : Stmt := top 34
abbrev s_l_take : Stmt := top 35
abbrev s_l_signs : Stmt := top 37
abbrev s_l_word : Stmt := top 38
abbrev s_l_plain_token : Stmt := top 41
abbrev s_l_size : Stmt := top 39
abbrev s_l_kept : Stmt := top 40
abbrev s_l_blocks : Stmt := top 42
abbrev s_rises : Stmt := top 11
abbrev s_is_signs : Stmt := top 12
abbrev s_is_integer : Stmt := top 10
abbrev s_is_width : Stmt := top 13
abbrev s_Reader_init : Stmt := inClass (top 26) 0
abbrev s_Reader_copied : Stmt := inClass (top 26) 8
abbrev s_is_text : Stmt := top 14
abbrev s_is_choice : Stmt := top 15
abbrev s_is_run : Stmt := top 18
abbrev s_is_token : Stmt := top 19
abbrev s_is_plain : Stmt := top 20
abbrev s_is_readable : Stmt := top 24
abbrev s_Reader_note : Stmt := inClass (top 26) 1
abbrev s_copied_signs : Stmt := top 25
abbrev s_Reader_kept : Stmt := inClass (top 26) 7
abbrev s_Reader_read : Stmt := inClass (top 26) 2
abbrev s_Reader_read_all : Stmt := inClass (top 26) 4
abbrev s_block_texts : Stmt := top 28
abbrev s_l_backs : Stmt := top 43
abbrev s_l_needed : Stmt := top 44
abbrev s_size : Stmt := top 21
abbrev s_sign_sources : Stmt := top 30
abbrev s_blocks_behind : Stmt := top 31
abbrev s_needed : Stmt := top 32
abbrev s_l_alike : Stmt := top 36
abbrev s_Reader_lost : Stmt := inClass (top 26) 5
abbrev s_spoilt : Stmt := top 29
abbrev s_law : Stmt := top 45
end Wc.K26
namespace Wc.K26
open PySem PySem.Spec PyProof.Rows L2
theorem q_copy : ("copy" : Str) = ⟨([99, 111, 112, 121] : List Nat).toArray⟩ := by decide +kernel
theorem q_text : ("text" : Str) = ⟨([116, 101, 120, 116] : List Nat).toArray⟩ := by decide +kernel
theorem q_e : ("" : Str) = ⟨([] : List Nat).toArray⟩ := by decide +kernel
theorem q_u63 : ("?" : Str) = ⟨([63] : List Nat).toArray⟩ := by decide +kernel
theorem q_ab : ("ab" : Str) = ⟨([97, 98] : List Nat).toArray⟩ := by decide +kernel
theorem q_abc : ("abc" : Str) = ⟨([97, 98, 99] : List Nat).toArray⟩ := by decide +kernel
theorem q_xz : ("xz" : Str) = ⟨([120, 122] : List Nat).toArray⟩ := by decide +kernel
theorem q_bdfhjl : ("bdfhjl" : Str) = ⟨([98, 100, 102, 104, 106, 108] : List Nat).toArray⟩ := by decide +kernel
theorem q_mnoz : ("mnoz" : Str) = ⟨([109, 110, 111, 122] : List Nat).toArray⟩ := by decide +kernel
theorem q_ay : ("ay" : Str) = ⟨([97, 121] : List Nat).toArray⟩ := by decide +kernel
theorem q_cegkw : ("cegkw" : Str) = ⟨([99, 101, 103, 107, 119] : List Nat).toArray⟩ := by decide +kernel
theorem q_flush : ("flush" : Str) = ⟨([102, 108, 117, 115, 104] : List Nat).toArray⟩ := by decide +kernel
theorem q_any : ("any" : Str) = ⟨([97, 110, 121] : List Nat).toArray⟩ := by decide +kernel
theorem q_abcdefghijklmnopqrstuvwxyz : ("abcdefghijklmnopqrstuvwxyz" : Str) = ⟨([97, 98, 99, 100, 101, 102, 103, 104, 105, 106, 107, 108, 109, 110, 111, 112, 113, 114, 115, 116, 117, 118, 119, 120, 121, 122] : List Nat).toArray⟩ := by decide +kernel
theorem q_say : ("say" : Str) = ⟨([115, 97, 121] : List Nat).toArray⟩ := by decide +kernel
theorem bt_list : bootBuiltins "list" = some (.type "list") := by decide +kernel
theorem bt_len : bootBuiltins "len" = some (.builtin "len") := by decide +kernel
theorem bt_abs : bootBuiltins "abs" = some (.builtin "abs") := by decide +kernel
theorem bt_int : bootBuiltins "int" = some (.type "int") := by decide +kernel
theorem bt_min : bootBuiltins "min" = some (.builtin "min") := by decide +kernel
theorem bt_str : bootBuiltins "str" = some (.type "str") := by decide +kernel
theorem bt_all : bootBuiltins "all" = some (.builtin "all") := by decide +kernel
theorem bt_bool : bootBuiltins "bool" = some (.type "bool") := by decide +kernel
theorem bt_tuple : bootBuiltins "tuple" = some (.type "tuple") := by decide +kernel
theorem bt_repr : bootBuiltins "repr" = some (.builtin "repr") := by decide +kernel
theorem bt_sum : bootBuiltins "sum" = some (.builtin "sum") := by decide +kernel
structure Ad where
  a_l_bag : Addr
  d_l_bag : FuncData
  a_l_take : Addr
  d_l_take : FuncData
  a_l_signs : Addr
  d_l_signs : FuncData
  a_l_word : Addr
  d_l_word : FuncData
  a_l_plain_token : Addr
  d_l_plain_token : FuncData
  a_l_size : Addr
  d_l_size : FuncData
  a_l_kept : Addr
  d_l_kept : FuncData
  a_l_blocks : Addr
  d_l_blocks : FuncData
  a_rises : Addr
  d_rises : FuncData
  a_is_signs : Addr
  d_is_signs : FuncData
  a_is_integer : Addr
  d_is_integer : FuncData
  a_is_width : Addr
  d_is_width : FuncData
  a_Reader_init : Addr
  d_Reader_init : FuncData
  a_Reader_copied : Addr
  d_Reader_copied : FuncData
  a_is_text : Addr
  d_is_text : FuncData
  a_is_choice : Addr
  d_is_choice : FuncData
  a_is_run : Addr
  d_is_run : FuncData
  a_is_token : Addr
  d_is_token : FuncData
  a_is_plain : Addr
  d_is_plain : FuncData
  a_is_readable : Addr
  d_is_readable : FuncData
  a_Reader_note : Addr
  d_Reader_note : FuncData
  a_copied_signs : Addr
  d_copied_signs : FuncData
  a_Reader_kept : Addr
  d_Reader_kept : FuncData
  a_Reader_read : Addr
  d_Reader_read : FuncData
  a_Reader_read_all : Addr
  d_Reader_read_all : FuncData
  a_block_texts : Addr
  d_block_texts : FuncData
  a_l_backs : Addr
  d_l_backs : FuncData
  a_l_needed : Addr
  d_l_needed : FuncData
  a_size : Addr
  d_size : FuncData
  a_sign_sources : Addr
  d_sign_sources : FuncData
  a_blocks_behind : Addr
  d_blocks_behind : FuncData
  a_needed : Addr
  d_needed : FuncData
  a_l_alike : Addr
  d_l_alike : FuncData
  a_Reader_lost : Addr
  d_Reader_lost : FuncData
  a_spoilt : Addr
  d_spoilt : FuncData
  a_law : Addr
  d_law : FuncData
structure Tks where
  k_LEAST_SIGNS : Tok
  k_LETTERS : Tok
  k_MARK : Tok
  k_MOST_SIGNS : Tok
  k_MOST_SIZE : Tok
  k_MOST_WIDTH : Tok
structure Facts (P : Program) (K : PySem.W.Frag) (mg : Str → Option Value) (T : Cl) (A : Ad) (k : Tks) : Prop where
  hT : T.K = K
  f_l_bag : Fun K "_law_bag" "_law_bag" s_l_bag A.a_l_bag A.d_l_bag
  b_l_bag : Binds K A.d_l_bag ["_law_script"] []
  m_l_bag : mg "_law_bag" = some (.ref A.a_l_bag)
  f_l_take : Fun K "_law_take" "_law_take" s_l_take A.a_l_take A.d_l_take
  b_l_take : Binds K A.d_l_take ["_law_bag_here", "_law_many"] []
  m_l_take : mg "_law_take" = some (.ref A.a_l_take)
  f_l_signs : Fun K "_law_signs" "_law_signs" s_l_signs A.a_l_signs A.d_l_signs
  b_l_signs : Binds K A.d_l_signs ["_law_bag_here"] []
  m_l_signs : mg "_law_signs" = some (.ref A.a_l_signs)
  f_l_word : Fun K "_law_word" "_law_word" s_l_word A.a_l_word A.d_l_word
  b_l_word : Binds K A.d_l_word ["_law_bag_here", "_law_signs_here", "_law_many"] []
  m_l_word : mg "_law_word" = some (.ref A.a_l_word)
  f_l_plain_token : Fun K "_law_plain_token" "_law_plain_token" s_l_plain_token A.a_l_plain_token A.d_l_plain_token
  b_l_plain_token : Binds K A.d_l_plain_token ["_law_bag_here", "_law_signs_here", "_law_kept_here", "_law_most"] []
  m_l_plain_token : mg "_law_plain_token" = some (.ref A.a_l_plain_token)
  f_l_size : Fun K "_law_size" "_law_size" s_l_size A.a_l_size A.d_l_size
  b_l_size : Binds K A.d_l_size ["_law_token"] []
  m_l_size : mg "_law_size" = some (.ref A.a_l_size)
  f_l_kept : Fun K "_law_kept" "_law_kept" s_l_kept A.a_l_kept A.d_l_kept
  b_l_kept : Binds K A.d_l_kept ["_law_tokens", "_law_width", "_law_ahead"] []
  m_l_kept : mg "_law_kept" = some (.ref A.a_l_kept)
  f_l_blocks : Fun K "_law_blocks" "_law_blocks" s_l_blocks A.a_l_blocks A.d_l_blocks
  b_l_blocks : Binds K A.d_l_blocks ["_law_bag_here", "_law_signs_here", "_law_width", "_law_count"] []
  m_l_blocks : mg "_law_blocks" = some (.ref A.a_l_blocks)
  f_rises : Fun K "rises" "rises" s_rises A.a_rises A.d_rises
  b_rises : Binds K A.d_rises ["text"] []
  m_rises : mg "rises" = some (.ref A.a_rises)
  f_is_signs : Fun K "is_signs" "is_signs" s_is_signs A.a_is_signs A.d_is_signs
  b_is_signs : Binds K A.d_is_signs ["thing"] []
  m_is_signs : mg "is_signs" = some (.ref A.a_is_signs)
  f_is_integer : Fun K "is_integer" "is_integer" s_is_integer A.a_is_integer A.d_is_integer
  b_is_integer : Binds K A.d_is_integer ["thing"] []
  m_is_integer : mg "is_integer" = some (.ref A.a_is_integer)
  f_is_width : Fun K "is_width" "is_width" s_is_width A.a_is_width A.d_is_width
  b_is_width : Binds K A.d_is_width ["thing"] []
  m_is_width : mg "is_width" = some (.ref A.a_is_width)
  f_Reader_init : Fun K "__init__" "Reader.__init__" s_Reader_init A.a_Reader_init A.d_Reader_init
  b_Reader_init : Binds K A.d_Reader_init ["self", "signs", "width"] []
  f_Reader_copied : Fun K "copied" "Reader.copied" s_Reader_copied A.a_Reader_copied A.d_Reader_copied
  b_Reader_copied : Binds K A.d_Reader_copied ["self"] []
  t_Reader_copied : Meth K (T.ca 0) "copied" A.a_Reader_copied
  f_is_text : Fun K "is_text" "is_text" s_is_text A.a_is_text A.d_is_text
  b_is_text : Binds K A.d_is_text ["signs", "thing"] []
  m_is_text : mg "is_text" = some (.ref A.a_is_text)
  f_is_choice : Fun K "is_choice" "is_choice" s_is_choice A.a_is_choice A.d_is_choice
  b_is_choice : Binds K A.d_is_choice ["signs", "thing"] []
  m_is_choice : mg "is_choice" = some (.ref A.a_is_choice)
  f_is_run : Fun K "is_run" "is_run" s_is_run A.a_is_run A.d_is_run
  b_is_run : Binds K A.d_is_run ["thing"] []
  m_is_run : mg "is_run" = some (.ref A.a_is_run)
  f_is_token : Fun K "is_token" "is_token" s_is_token A.a_is_token A.d_is_token
  b_is_token : Binds K A.d_is_token ["signs", "thing"] []
  m_is_token : mg "is_token" = some (.ref A.a_is_token)
  f_is_plain : Fun K "is_plain" "is_plain" s_is_plain A.a_is_plain A.d_is_plain
  b_is_plain : Binds K A.d_is_plain ["signs", "thing"] []
  m_is_plain : mg "is_plain" = some (.ref A.a_is_plain)
  f_is_readable : Fun K "is_readable" "is_readable" s_is_readable A.a_is_readable A.d_is_readable
  b_is_readable : Binds K A.d_is_readable ["signs", "width", "thing"] []
  m_is_readable : mg "is_readable" = some (.ref A.a_is_readable)
  f_Reader_note : Fun K "note" "Reader.note" s_Reader_note A.a_Reader_note A.d_Reader_note
  b_Reader_note : Binds K A.d_Reader_note ["self", "text"] []
  t_Reader_note : Meth K (T.ca 0) "note" A.a_Reader_note
  f_copied_signs : Fun K "copied_signs" "copied_signs" s_copied_signs A.a_copied_signs A.d_copied_signs
  b_copied_signs : Binds K A.d_copied_signs ["text", "distance", "many"] []
  m_copied_signs : mg "copied_signs" = some (.ref A.a_copied_signs)
  f_Reader_kept : Fun K "kept" "Reader.kept" s_Reader_kept A.a_Reader_kept A.d_Reader_kept
  b_Reader_kept : Binds K A.d_Reader_kept ["self"] []
  t_Reader_kept : Meth K (T.ca 0) "kept" A.a_Reader_kept
  f_Reader_read : Fun K "read" "Reader.read" s_Reader_read A.a_Reader_read A.d_Reader_read
  b_Reader_read : Binds K A.d_Reader_read ["self", "token"] []
  t_Reader_read : Meth K (T.ca 0) "read" A.a_Reader_read
  f_Reader_read_all : Fun K "read_all" "Reader.read_all" s_Reader_read_all A.a_Reader_read_all A.d_Reader_read_all
  b_Reader_read_all : Binds K A.d_Reader_read_all ["self", "tokens"] []
  t_Reader_read_all : Meth K (T.ca 0) "read_all" A.a_Reader_read_all
  f_block_texts : Fun K "block_texts" "block_texts" s_block_texts A.a_block_texts A.d_block_texts
  b_block_texts : Binds K A.d_block_texts ["signs", "width", "blocks"] []
  m_block_texts : mg "block_texts" = some (.ref A.a_block_texts)
  f_l_backs : Fun K "_law_backs" "_law_backs" s_l_backs A.a_l_backs A.d_l_backs
  b_l_backs : Binds K A.d_l_backs ["_law_blocks_here"] []
  m_l_backs : mg "_law_backs" = some (.ref A.a_l_backs)
  f_l_needed : Fun K "_law_needed" "_law_needed" s_l_needed A.a_l_needed A.d_l_needed
  b_l_needed : Binds K A.d_l_needed ["_law_blocks_here", "_law_index"] []
  m_l_needed : mg "_law_needed" = some (.ref A.a_l_needed)
  f_size : Fun K "size" "size" s_size A.a_size A.d_size
  b_size : Binds K A.d_size ["token"] []
  m_size : mg "size" = some (.ref A.a_size)
  f_sign_sources : Fun K "sign_sources" "sign_sources" s_sign_sources A.a_sign_sources A.d_sign_sources
  b_sign_sources : Binds K A.d_sign_sources ["blocks"] []
  m_sign_sources : mg "sign_sources" = some (.ref A.a_sign_sources)
  f_blocks_behind : Fun K "blocks_behind" "blocks_behind" s_blocks_behind A.a_blocks_behind A.d_blocks_behind
  b_blocks_behind : Binds K A.d_blocks_behind ["sources", "at"] []
  m_blocks_behind : mg "blocks_behind" = some (.ref A.a_blocks_behind)
  f_needed : Fun K "needed" "needed" s_needed A.a_needed A.d_needed
  b_needed : Binds K A.d_needed ["signs", "width", "blocks", "index"] []
  m_needed : mg "needed" = some (.ref A.a_needed)
  f_l_alike : Fun K "_law_alike" "_law_alike" s_l_alike A.a_l_alike A.d_l_alike
  b_l_alike : Binds K A.d_l_alike ["_law_found", "_law_due"] []
  m_l_alike : mg "_law_alike" = some (.ref A.a_l_alike)
  f_Reader_lost : Fun K "lost" "Reader.lost" s_Reader_lost A.a_Reader_lost A.d_Reader_lost
  b_Reader_lost : Binds K A.d_Reader_lost ["self", "many"] []
  t_Reader_lost : Meth K (T.ca 0) "lost" A.a_Reader_lost
  f_spoilt : Fun K "spoilt" "spoilt" s_spoilt A.a_spoilt A.d_spoilt
  b_spoilt : Binds K A.d_spoilt ["signs", "width", "blocks", "lost"] []
  m_spoilt : mg "spoilt" = some (.ref A.a_spoilt)
  f_law : Fun K "law" "law" s_law A.a_law A.d_law
  b_law : Binds K A.d_law ["_law_script"] []
  m_law : mg "law" = some (.ref A.a_law)
  cl0 : Cls K (T.ca 0)
  g0 : mg "Reader" = some (.ref (T.ca 0))
  mk0 : L2.Mk K (T.ca 0) A.a_Reader_init
  n0_its_number : NoAttr K (T.ca 0) "its_number"
  n0_its_signs : NoAttr K (T.ca 0) "its_signs"
  n0_its_text : NoAttr K (T.ca 0) "its_text"
  n0_its_width : NoAttr K (T.ca 0) "its_width"
  z_range : mg "range" = none
  z_list : mg "list" = none
  z_len : mg "len" = none
  z_abs : mg "abs" = none
  z_int : mg "int" = none
  z_min : mg "min" = none
  z_str : mg "str" = none
  z_isinstance : mg "isinstance" = none
  z_all : mg "all" = none
  z_zip : mg "zip" = none
  z_bool : mg "bool" = none
  z_tuple : mg "tuple" = none
  z_sorted : mg "sorted" = none
  z_set : mg "set" = none
  z_enumerate : mg "enumerate" = none
  z_repr : mg "repr" = none
  z_sum : mg "sum" = none
  c_LEAST_SIGNS : mg "LEAST_SIGNS" = some (.int 2 k.k_LEAST_SIGNS)
  c_LETTERS : mg "LETTERS" = some (.str "abcdefghijklmnopqrstuvwxyz" k.k_LETTERS)
  c_MARK : mg "MARK" = some (.str "?" k.k_MARK)
  c_MOST_SIGNS : mg "MOST_SIGNS" = some (.int 6 k.k_MOST_SIGNS)
  c_MOST_SIZE : mg "MOST_SIZE" = some (.int 40 k.k_MOST_SIZE)
  c_MOST_WIDTH : mg "MOST_WIDTH" = some (.int 12 k.k_MOST_WIDTH)
section
variable {P : Program} {w : World} {K : PySem.W.Frag} {mg : Str → Option Value} {base : Heap} {T : Cl} {A : Ad} {k : Tks}
theorem sc_l_bag : FnScope ["_law_script", "_law_cell"] ["_law_script"] (defScope s_l_bag) := ⟨rfl, rfl, rfl, by decide +kernel, rfl, by decide +kernel, by decide +kernel⟩
theorem ok_l_bag (Y : Facts P K mg T A k) : FnG P w K mg base 1 A.a_l_bag A.d_l_bag ["_law_script"] (spF T 1 F_l_bag) :=
  fn_mk2 (k := 0) Y.f_l_bag sc_l_bag rfl rfl fun cdv A0 outer s H E hgd hr tk hp => by
    refine sd_one ?_
    · refine sd_ret ?_
      · refine pd_lstE finW ?_
        · refine il_c ?_ ?_
          · exact pd_int
          · refine il_c ?_ ?_
            · exact pd_int
            · refine il_c ?_ ?_
              · exact pd_int
              · refine il_c ?_ ?_
                · refine pd_fz ?_
                  · refine pd_lc (own := [("_law_cell", 1)]) (g := (gName 1)) (by rfl) sc_l_bag.nd ?_ (blkOk_by (own := [("_law_cell", 1)]) (N := ["_law_script", "_law_cell"]) (sc := defScope s_l_bag) (by decide +kernel)) ?_ ?_ ?_
                    · refine pi_l ?_
                      · refine pd_slN finD Y.hT ?_ ?_ ?_
                        · exact pv 0
                        · exact po_no
                        · refine po_so ?_
                          · exact pd_int
                    · intro _ _ _ _ _
                      exact gt_name sc_l_bag.nd (by rfl) (by first | exact Or.inl rfl | exact Or.inr rfl) (by decide)
                    · intro _ _ _ _ _
                      exact pts_yes
                    · intro _ _ _ _ _
                      refine pd_b1 finD call_abs sAbs (by rfl) Y.z_abs bt_abs ?_
                      · refine pd_pk ?_
                        · exact pv 1
                · exact il_n
theorem sc_l_take : FnScope ["_law_bag_here", "_law_many", "_law_cell", "_law_mixed", "_law_drawn", "_law_early", "_law_second"] ["_law_bag_here", "_law_many"] (defScope s_l_take) := ⟨rfl, rfl, rfl, by decide +kernel, rfl, by decide +kernel, by decide +kernel⟩
theorem ok_l_take (Y : Facts P K mg T A k) : FnG P w K mg base 1 A.a_l_take A.d_l_take ["_law_bag_here", "_law_many"] (spF T 2 F_l_take) :=
  fn_mk2 (k := 0) Y.f_l_take sc_l_take rfl rfl fun cdv A0 outer s H E hgd hr tk hp => by
    refine sd_cons ?_ ?_
    · refine sd_if ?_ ?_ ?_
      · refine pt_c2 (op_eqG hr.units) sEq ?_ ?_ (by rfl)
        · refine pdx2n finD ix_seq sIxD ?_ ?_ (fun _ _ => rfl)
          · exact pv 0
          · refine pd_v ?_
            · exact pd_int
        · refine pd_v ?_
          · exact pd_int
      · refine sd_cons ?_ ?_
        · refine sd_set sc_l_take.nd (by rfl) (by first | exact Or.inl rfl | exact Or.inr rfl) (by decide) ?_
          · refine pd_lf ?_
            · exact pd_int
        · refine sd_cons ?_ ?_
          · refine sd_if ?_ ?_ ?_
            · refine pt_c2 op_ltD sLt ?_ ?_ (by rfl)
              · refine pdx2n finD ix_seq sIxD ?_ ?_ (fun _ _ => rfl)
                · exact pv 0
                · refine pd_v ?_
                  · exact pd_int
              · refine pd_v ?_
                · refine pd_b1 finD call_len sLen (by rfl) Y.z_len bt_len ?_
                  · refine pd_v ?_
                    · refine pdx2n finD ix_seq sIxD ?_ ?_ (fun _ _ => rfl)
                      · exact pv 0
                      · refine pd_v ?_
                        · exact pd_int
            · refine sd_one ?_
              · refine sd_set sc_l_take.nd (by rfl) (by first | exact Or.inl rfl | exact Or.inr rfl) (by decide) ?_
                · refine pdx2 finW ix_seq sIxD ?_ ?_ (fun _ _ => rfl)
                  · refine pdx2n finD ix_seq sIxD ?_ ?_ (fun _ _ => rfl)
                    · exact pv 0
                    · refine pd_v ?_
                      · exact pd_int
                  · refine pd_v ?_
                    · refine pdx2n finD ix_seq sIxD ?_ ?_ (fun _ _ => rfl)
                      · exact pv 0
                      · refine pd_v ?_
                        · exact pd_int
            · exact sd_nil
          · refine sd_cons ?_ ?_
            · refine sd_augI ?_ ?_ ?_
              · exact pv 0
              · exact pd_int
              · exact pd_int
            · refine sd_cons ?_ ?_
              · refine sd_if ?_ ?_ ?_
                · refine pt_c2n op_ge sGe ?_ ?_ (by rfl)
                  · exact pv 2
                  · refine pd_v ?_
                    · exact pd_int
                · refine sd_one ?_
                  · refine sd_setI ?_ ?_ ?_
                    · exact pv 0
                    · exact pd_int
                    · refine pd_nm ?_
                      · exact pv 2
                · exact sd_nil
              · refine sd_cons ?_ ?_
                · refine sd_set sc_l_take.nd (by rfl) (by first | exact Or.inl rfl | exact Or.inr rfl) (by decide) ?_
                  · refine pd2 finW op_addD sAdd ?_ ?_
                    · refine pd2 finD op_addD sAdd ?_ ?_
                      · refine pd2 finD op_mulD sMul ?_ ?_
                        · refine pdx2n finD ix_seq sIxD ?_ ?_ (fun _ _ => rfl)
                          · exact pv 0
                          · refine pd_v ?_
                            · exact pd_int
                        · refine pd_v ?_
                          · exact pd_int
                      · refine pd_v ?_
                        · refine pd2 finD op_mod sMod ?_ ?_
                          · refine pd_t1 finD call_int1 sInt (by rfl) Y.z_int bt_int ?_
                            · refine pd_pk ?_
                              · exact pv 2
                          · refine pd_v ?_
                            · exact pd_int
                    · refine pd_v ?_
                      · refine pd2 finD op_mulD sMul ?_ ?_
                        · exact pd_int
                        · refine pd_v ?_
                          · refine pdx2n finD ix_seq sIxD ?_ ?_ (fun _ _ => rfl)
                            · exact pv 0
                            · refine pd_v ?_
                              · exact pd_int
                · refine sd_one ?_
                  · refine sd_setI ?_ ?_ ?_
                    · exact pv 0
                    · exact pd_int
                    · refine pd2 finD op_mod sMod ?_ ?_
                      · refine pd_t1 finD call_int1 sInt (by rfl) Y.z_int bt_int ?_
                        · refine pd_pk ?_
                          · exact pv 3
                      · refine pd_v ?_
                        · exact pd_int
      · exact sd_nil
    · refine sd_cons ?_ ?_
      · refine sd_if ?_ ?_ ?_
        · refine pt_c2 op_gt sGt ?_ ?_ (by rfl)
          · refine pdx2n finD ix_seq sIxD ?_ ?_ (fun _ _ => rfl)
            · exact pv 0
            · refine pd_v ?_
              · exact pd_int
          · refine pd_v ?_
            · exact pd_int
        · refine sd_cons ?_ ?_
          · refine sd_set sc_l_take.nd (by rfl) (by first | exact Or.inl rfl | exact Or.inr rfl) (by decide) ?_
            · refine pd2 finW op_mod sMod ?_ ?_
              · refine pd_t1 finD call_int1 sInt (by rfl) Y.z_int bt_int ?_
                · refine pd_v ?_
                  · refine pdx2n finD ix_seq sIxD ?_ ?_ (fun _ _ => rfl)
                    · exact pv 0
                    · refine pd_v ?_
                      · exact pd_int
              · refine pd_pk ?_
                · exact pv 1
          · refine sd_cons ?_ ?_
            · refine sd_setI ?_ ?_ ?_
              · exact pv 0
              · exact pd_int
              · refine pd2 finD op_fdiv sFdiv ?_ ?_
                · refine pd_t1 finD call_int1 sInt (by rfl) Y.z_int bt_int ?_
                  · refine pd_v ?_
                    · refine pdx2n finD ix_seq sIxD ?_ ?_ (fun _ _ => rfl)
                      · exact pv 0
                      · refine pd_v ?_
                        · exact pd_int
                · refine pd_pk ?_
                  · exact pv 1
            · refine sd_one ?_
              · refine sd_ret ?_
                · refine pd_mv ?_
                  · exact pv 4
        · exact sd_nil
      · refine sd_cons ?_ ?_
        · refine sd_set sc_l_take.nd (by rfl) (by first | exact Or.inl rfl | exact Or.inr rfl) (by decide) ?_
          · refine pd2 finW op_mod sMod ?_ ?_
            · refine pd_t1 finD call_int1 sInt (by rfl) Y.z_int bt_int ?_
              · refine pd_v ?_
                · refine pd2 finD op_mulD sMul ?_ ?_
                  · refine pd2 finD op_addD sAdd ?_ ?_
                    · refine pdx2n finD ix_seq sIxD ?_ ?_ (fun _ _ => rfl)
                      · exact pv 0
                      · refine pd_v ?_
                        · exact pd_int
                    · refine pd_v ?_
                      · exact pd_int
                  · refine pd_v ?_
                    · exact pd_int
            · refine pd_v ?_
              · exact pd_int
        · refine sd_cons ?_ ?_
          · refine sd_set sc_l_take.nd (by rfl) (by first | exact Or.inl rfl | exact Or.inr rfl) (by decide) ?_
            · refine pd2 finW op_mod sMod ?_ ?_
              · refine pd_t1 finD call_int1 sInt (by rfl) Y.z_int bt_int ?_
                · refine pd_v ?_
                  · refine pd2 finD op_mulD sMul ?_ ?_
                    · refine pd2 finD op_mod sMod ?_ ?_
                      · refine pd_t1 finD call_int1 sInt (by rfl) Y.z_int bt_int ?_
                        · refine pd_v ?_
                          · refine pd2n finD op_mulD sMul ?_ ?_
                            · exact pv 5
                            · refine pd_pk ?_
                              · exact pv 5
                      · refine pd_v ?_
                        · exact pd_int
                    · refine pd_v ?_
                      · exact pd_int
              · refine pd_v ?_
                · exact pd_int
          · refine sd_one ?_
            · refine sd_ret ?_
              · refine pd2 finW op_mod sMod ?_ ?_
                · refine pd_t1 finD call_int1 sInt (by rfl) Y.z_int bt_int ?_
                  · refine pd_v ?_
                    · refine pd2n finD op_fdiv sFdiv ?_ ?_
                      · exact pv 6
                      · refine pd_v ?_
                        · exact pd_int
                · refine pd_pk ?_
                  · exact pv 1
theorem sc_l_signs : FnScope ["_law_bag_here"] ["_law_bag_here"] (defScope s_l_signs) := ⟨rfl, rfl, rfl, by decide +kernel, rfl, by decide +kernel, by decide +kernel⟩
theorem ok_l_signs (Y : Facts P K mg T A k) : FnG P w K mg base 2 A.a_l_signs A.d_l_signs ["_law_bag_here"] (spF T 1 F_l_signs) :=
  fn_mk2 (k := 1) Y.f_l_signs sc_l_signs rfl rfl fun cdv A0 outer s H E hgd hr tk hp => by
    refine sd_one ?_
    · refine sd_ret ?_
      · refine pdx2 finW ix_seq sIxD ?_ ?_ (fun _ _ => rfl)
        · refine pd_lstE finD ?_
          · refine il_c ?_ ?_
            · exact pd_str q_ab
            · refine il_c ?_ ?_
              · exact pd_str q_abc
              · refine il_c ?_ ?_
                · exact pd_str q_xz
                · refine il_c ?_ ?_
                  · exact pd_str q_bdfhjl
                  · refine il_c ?_ ?_
                    · exact pd_str q_mnoz
                    · refine il_c ?_ ?_
                      · exact pd_str q_ay
                      · refine il_c ?_ ?_
                        · exact pd_str q_cegkw
                        · exact il_n
        · refine pd_v ?_
          · refine pd_fz ?_
            · refine pd_callE (ok_l_take Y) hgd (hr.mono (by decide)) tk (by rfl) Y.m_l_take Y.f_l_take.kp Y.b_l_take ?_ (by rfl)
              · refine ar_v ?_ ?_
                · exact pv 0
                · refine ar_d ?_ ?_
                  · exact pd_int
                  · exact ar_n
theorem sc_l_word : FnScope ["_law_bag_here", "_law_signs_here", "_law_many", "_law_k"] ["_law_bag_here", "_law_signs_here", "_law_many"] (defScope s_l_word) := ⟨rfl, rfl, rfl, by decide +kernel, rfl, by decide +kernel, by decide +kernel⟩
theorem ok_l_word (Y : Facts P K mg T A k) : FnG P w K mg base 2 A.a_l_word A.d_l_word ["_law_bag_here", "_law_signs_here", "_law_many"] (spF T 3 F_l_word) :=
  fn_mk2 (k := 1) Y.f_l_word sc_l_word rfl rfl fun cdv A0 outer s H E hgd hr tk hp => by
    refine sd_one ?_
    · refine sd_ret ?_
      · refine pd_join finW q_e ?_
        · refine pd_v ?_
          · refine pd_fz ?_
            · refine pd_lc (own := [("_law_k", 3)]) (g := (gName 3)) (by rfl) sc_l_word.nd ?_ (blkOk_by (own := [("_law_k", 3)]) (N := ["_law_bag_here", "_law_signs_here", "_law_many", "_law_k"]) (sc := defScope s_l_word) (by decide +kernel)) ?_ ?_ ?_
              · refine pi_r1 (by rfl) Y.z_range ?_
                · refine pd_nm ?_
                  · exact pv 2
              · intro _ _ _ _ _
                exact gt_name sc_l_word.nd (by rfl) (by first | exact Or.inl rfl | exact Or.inr rfl) (by decide)
              · intro _ _ _ _ _
                exact pts_yes
              · intro _ _ _ _ _
                refine pdx2n finD ix_seq sIxD ?_ ?_ (fun _ _ => rfl)
                · exact pv 1
                · refine pd_v ?_
                  · refine pd_fz ?_
                    · refine pd_callE (ok_l_take Y) hgd (hr.mono (by decide)) L2.takes0 (by rfl) Y.m_l_take Y.f_l_take.kp Y.b_l_take ?_ (by rfl)
                      · refine ar_v ?_ ?_
                        · exact pv 0
                        · refine ar_d ?_ ?_
                          · refine pd_b1 finD call_len sLen (by rfl) Y.z_len bt_len ?_
                            · refine pd_pk ?_
                              · exact pv 1
                          · exact ar_n
theorem sc_l_plain_token : FnScope ["_law_bag_here", "_law_signs_here", "_law_kept_here", "_law_most", "_law_way", "_law_many"] ["_law_bag_here", "_law_signs_here", "_law_kept_here", "_law_most"] (defScope s_l_plain_token) := ⟨rfl, rfl, rfl, by decide +kernel, rfl, by decide +kernel, by decide +kernel⟩
theorem ok_l_plain_token (Y : Facts P K mg T A k) : FnG P w K mg base 3 A.a_l_plain_token A.d_l_plain_token ["_law_bag_here", "_law_signs_here", "_law_kept_here", "_law_most"] (spF T 4 F_l_plain_token) :=
  fn_mk2 (k := 2) Y.f_l_plain_token sc_l_plain_token rfl rfl fun cdv A0 outer s H E hgd hr tk hp => by
    refine sd_cons ?_ ?_
    · refine sd_par (by rfl) sc_l_plain_token.nd (by rfl) (by rfl) (by decide) (by decide) (by decide) (by rfl) (by rfl) ?_ ?_
      · refine pd_callE (ok_l_take Y) hgd (hr.mono (by decide)) tk (by rfl) Y.m_l_take Y.f_l_take.kp Y.b_l_take ?_ (by rfl)
        · refine ar_v ?_ ?_
          · exact pv 0
          · refine ar_d ?_ ?_
            · exact pd_int
            · exact ar_n
      · refine pd2 finW op_addD sAdd ?_ ?_
        · exact pd_int
        · refine pd_v ?_
          · refine pd_fz ?_
            · refine pd_callE (ok_l_take Y) hgd (hr.mono (by decide)) tk (by rfl) Y.m_l_take Y.f_l_take.kp Y.b_l_take ?_ (by rfl)
              · refine ar_v ?_ ?_
                · exact pv 0
                · refine ar_v ?_ ?_
                  · exact pv 3
                  · exact ar_n
    · refine sd_cons ?_ ?_
      · refine sd_if ?_ ?_ ?_
        · refine PW.pt ?_
          · refine pw_and' ?_ ?_
            · refine pt_c2n op_ltD sLt ?_ ?_ (by rfl)
              · exact pv 4
              · refine pd_v ?_
                · exact pd_int
            · refine pw_and1 ?_
              · refine pt_c2n op_gt sGt ?_ ?_ (by rfl)
                · exact pv 2
                · refine pd_v ?_
                  · exact pd_int
        · refine sd_one ?_
          · refine sd_ret ?_
            · refine pd_tupE finW ?_
              · refine il_c ?_ ?_
                · exact pd_str q_copy
                · refine il_c ?_ ?_
                  · refine pd2 finD op_addD sAdd ?_ ?_
                    · exact pd_int
                    · refine pd_v ?_
                      · refine pd_fz ?_
                        · refine pd_callE (ok_l_take Y) hgd (hr.mono (by decide)) tk (by rfl) Y.m_l_take Y.f_l_take.kp Y.b_l_take ?_ (by rfl)
                          · refine ar_v ?_ ?_
                            · exact pv 0
                            · refine ar_v ?_ ?_
                              · exact pv 2
                              · exact ar_n
                  · refine il_c ?_ ?_
                    · refine pd_nm ?_
                      · exact pv 5
                    · exact il_n
        · exact sd_nil
      · refine sd_one ?_
        · refine sd_ret ?_
          · refine pd_ifx ?_ ?_ ?_
            · refine pt_c2n (op_eqG hr.units) sEq ?_ ?_ (by rfl)
              · exact pv 4
              · refine pd_v ?_
                · exact pd_int
            · refine pd_tupE finW ?_
              · refine il_c ?_ ?_
                · exact pd_str q_flush
                · exact il_n
            · refine pd_tupE finW ?_
              · refine il_c ?_ ?_
                · exact pd_str q_text
                · refine il_c ?_ ?_
                  · refine pd_fz ?_
                    · refine pd_callE (ok_l_word Y) hgd (hr.mono (by decide)) tk (by rfl) Y.m_l_word Y.f_l_word.kp Y.b_l_word ?_ (by rfl)
                      · refine ar_v ?_ ?_
                        · exact pv 0
                        · refine ar_v ?_ ?_
                          · exact pv 1
                          · refine ar_d ?_ ?_
                            · refine pd_b2 finD (call_min2 (by rfl)) sMin2 (by rfl) Y.z_min bt_min ?_ ?_
                              · refine pd_nm ?_
                                · exact pv 5
                              · refine pd_v ?_
                                · exact pd_int
                            · exact ar_n
                  · exact il_n
theorem sc_l_size : FnScope ["_law_token"] ["_law_token"] (defScope s_l_size) := ⟨rfl, rfl, rfl, by decide +kernel, rfl, by decide +kernel, by decide +kernel⟩
theorem ok_l_size (Y : Facts P K mg T A k) : FnG P w K mg base 1 A.a_l_size A.d_l_size ["_law_token"] (spF T 1 F_l_size) :=
  fn_mk2 (k := 0) Y.f_l_size sc_l_size rfl rfl fun cdv A0 outer s H E hgd hr tk hp => by
    refine sd_cons ?_ ?_
    · refine sd_if ?_ ?_ ?_
      · refine pt_c2 (op_eqG hr.units) sEq ?_ ?_ (by rfl)
        · refine pdx2n finD ix_seq sIxD ?_ ?_ (fun _ _ => rfl)
          · exact pv 0
          · refine pd_v ?_
            · exact pd_int
        · refine pd_v ?_
          · exact pd_str q_text
      · refine sd_one ?_
        · refine sd_ret ?_
          · refine pd_b1 finW call_len sLen (by rfl) Y.z_len bt_len ?_
            · refine pd_v ?_
              · refine pdx2n finD ix_seq sIxD ?_ ?_ (fun _ _ => rfl)
                · exact pv 0
                · refine pd_v ?_
                  · exact pd_int
      · exact sd_nil
    · refine sd_one ?_
      · refine sd_ret ?_
        · refine pd_ifx ?_ ?_ ?_
          · refine pt_c2 op_inG sIn ?_ ?_ (by rfl)
            · refine pdx2n finD ix_seq sIxD ?_ ?_ (fun _ _ => rfl)
              · exact pv 0
              · refine pd_v ?_
                · exact pd_int
            · refine pd_v ?_
              · refine pd_tupE finD ?_
                · refine il_c ?_ ?_
                  · exact pd_str q_any
                  · refine il_c ?_ ?_
                    · exact pd_str q_flush
                    · exact il_n
          · refine pd_sel finW (hu_of hr) q_any q_flush (by decide) ?_ (fun _ _ => rfl)
            · refine pd_v ?_
              · refine pdx2n finD ix_seq sIxD ?_ ?_ (fun _ _ => rfl)
                · exact pv 0
                · refine pd_v ?_
                  · exact pd_int
          · refine pdx2n finW ix_seq sIxD ?_ ?_ (fun _ _ => rfl)
            · exact pv 0
            · refine pd_v ?_
              · exact pd_int
theorem sc_l_kept : FnScope ["_law_tokens", "_law_width", "_law_ahead", "_law_kept_here", "_law_token"] ["_law_tokens", "_law_width", "_law_ahead"] (defScope s_l_kept) := ⟨rfl, rfl, rfl, by decide +kernel, rfl, by decide +kernel, by decide +kernel⟩
theorem ok_l_kept (Y : Facts P K mg T A k) : FnG P w K mg base 2 A.a_l_kept A.d_l_kept ["_law_tokens", "_law_width", "_law_ahead"] (spF T 3 F_l_kept) :=
  fn_mk2 (k := 1) Y.f_l_kept sc_l_kept rfl rfl fun cdv A0 outer s H E hgd hr tk hp => by
    refine sd_cons ?_ ?_
    · refine sd_set sc_l_kept.nd (by rfl) (by first | exact Or.inl rfl | exact Or.inr rfl) (by decide) ?_
      · refine pd_lf ?_
        · refine pd_nm ?_
          · exact pv 2
    · refine sd_cons ?_ ?_
      · refine sd_forNE hp (by rfl) ?_ (by decide) ?_ ?_
        · exact pv 0
        · exact ge_name sc_l_kept.nd (by rfl) (by first | exact Or.inl rfl | exact Or.inr rfl) (by decide)
        · refine sd_one ?_
          · refine sd_set sc_l_kept.nd (by rfl) (by first | exact Or.inl rfl | exact Or.inr rfl) (by decide) ?_
            · refine pd_ifx ?_ ?_ ?_
              · refine pt_c2 (op_eqG hr.units) sEq ?_ ?_ (by rfl)
                · refine pdx2n finD ix_seq sIxD ?_ ?_ (fun _ _ => rfl)
                  · exact pv 4
                  · refine pd_v ?_
                    · exact pd_int
                · refine pd_v ?_
                  · exact pd_str q_flush
              · refine pd_lf ?_
                · exact pd_int
              · refine pd_b2 finW (call_min2 (by rfl)) sMin2 (by rfl) Y.z_min bt_min ?_ ?_
                · refine pd_nm ?_
                  · exact pv 1
                · refine pd_v ?_
                  · refine pd2n finD op_addD sAdd ?_ ?_
                    · exact pv 3
                    · refine pd_v ?_
                      · refine pd_fz ?_
                        · refine pd_callE (ok_l_size Y) hgd (hr.mono (by decide)) tk (by rfl) Y.m_l_size Y.f_l_size.kp Y.b_l_size ?_ (by rfl)
                          · refine ar_v ?_ ?_
                            · exact pv 4
                            · exact ar_n
      · refine sd_one ?_
        · refine sd_ret ?_
          · refine pd_mv ?_
            · exact pv 3
theorem sc_l_blocks : FnScope ["_law_bag_here", "_law_signs_here", "_law_width", "_law_count", "_law_found", "_law_kept_here", "_law_most", "_law_k", "_law_block", "_law_j", "_law_token"] ["_law_bag_here", "_law_signs_here", "_law_width", "_law_count"] (defScope s_l_blocks) := ⟨rfl, rfl, rfl, by decide +kernel, rfl, by decide +kernel, by decide +kernel⟩
theorem ok_l_blocks (Y : Facts P K mg T A k) : FnG P w K mg base 4 A.a_l_blocks A.d_l_blocks ["_law_bag_here", "_law_signs_here", "_law_width", "_law_count"] (spF T 4 F_l_blocks) :=
  fn_mk2 (k := 3) Y.f_l_blocks sc_l_blocks rfl rfl fun cdv A0 outer s H E hgd hr tk hp => by
    refine sd_cons ?_ ?_
    · refine sd_par3 (by rfl) sc_l_blocks.nd (by rfl) (by rfl) (by rfl) (by decide) (by decide) (by decide) (by decide) (by decide) (by decide) (by rfl) (by rfl) (by rfl) ?_ ?_ ?_
      · refine pd_lstE finW ?_
        · exact il_n
      · refine pd_lf ?_
        · exact pd_int
      · refine pdx2 finW ix_seq sIxD ?_ ?_ (fun _ _ => rfl)
        · refine pd_lstE finD ?_
          · refine il_c ?_ ?_
            · exact pd_int
            · refine il_c ?_ ?_
              · exact pd_int
              · refine il_c ?_ ?_
                · exact pd_int
                · refine il_c ?_ ?_
                  · exact pd_int
                  · exact il_n
        · refine pd_v ?_
          · refine pd_fz ?_
            · refine pd_callE (ok_l_take Y) hgd (hr.mono (by decide)) tk (by rfl) Y.m_l_take Y.f_l_take.kp Y.b_l_take ?_ (by rfl)
              · refine ar_v ?_ ?_
                · exact pv 0
                · refine ar_d ?_ ?_
                  · exact pd_int
                  · exact ar_n
    · refine sd_cons ?_ ?_
      · refine sd_forE hp (by rfl) ?_ ?_ ?_
        · refine pi_r1 (by rfl) Y.z_range ?_
          · refine pd_nm ?_
            · exact pv 3
        · exact ge_name sc_l_blocks.nd (by rfl) (by first | exact Or.inl rfl | exact Or.inr rfl) (by decide)
        · refine sd_cons ?_ ?_
          · refine sd_set sc_l_blocks.nd (by rfl) (by first | exact Or.inl rfl | exact Or.inr rfl) (by decide) ?_
            · refine pd_lstE finW ?_
              · exact il_n
          · refine sd_cons ?_ ?_
            · refine sd_forE hp (by rfl) ?_ ?_ ?_
              · refine pi_r1 (by rfl) Y.z_range ?_
                · refine pd_fz ?_
                  · refine pd_callE (ok_l_take Y) hgd (hr.mono (by decide)) tk (by rfl) Y.m_l_take Y.f_l_take.kp Y.b_l_take ?_ (by rfl)
                    · refine ar_v ?_ ?_
                      · exact pv 0
                      · refine ar_d ?_ ?_
                        · exact pd_int
                        · exact ar_n
              · exact ge_name sc_l_blocks.nd (by rfl) (by first | exact Or.inl rfl | exact Or.inr rfl) (by decide)
              · refine sd_cons ?_ ?_
                · refine sd_set sc_l_blocks.nd (by rfl) (by first | exact Or.inl rfl | exact Or.inr rfl) (by decide) ?_
                  · refine pd_callE (ok_l_plain_token Y) hgd (hr.mono (by decide)) tk (by rfl) Y.m_l_plain_token Y.f_l_plain_token.kp Y.b_l_plain_token ?_ (by rfl)
                    · refine ar_v ?_ ?_
                      · exact pv 0
                      · refine ar_v ?_ ?_
                        · exact pv 1
                        · refine ar_v ?_ ?_
                          · exact pv 5
                          · refine ar_v ?_ ?_
                            · exact pv 6
                            · exact ar_n
                · refine sd_cons ?_ ?_
                  · refine sd_set sc_l_blocks.nd (by rfl) (by first | exact Or.inl rfl | exact Or.inr rfl) (by decide) ?_
                    · refine pd_callE (ok_l_kept Y) hgd (hr.mono (by decide)) tk (by rfl) Y.m_l_kept Y.f_l_kept.kp Y.b_l_kept ?_ (by rfl)
                      · refine ar_d ?_ ?_
                        · refine pd_lstE finD ?_
                          · refine il_c ?_ ?_
                            · refine pd_nm ?_
                              · exact pv 10
                            · exact il_n
                        · refine ar_v ?_ ?_
                          · exact pv 2
                          · refine ar_v ?_ ?_
                            · exact pv 5
                            · exact ar_n
                  · refine sd_one ?_
                    · refine sd_drop (κ := KD) ?_
                      · refine pd_app ?_ ?_
                        · exact pv 8
                        · refine pd_nm ?_
                          · exact pv 10
            · refine sd_one ?_
              · refine sd_drop (κ := KD) ?_
                · refine pd_app ?_ ?_
                  · exact pv 4
                  · refine pd_nm ?_
                    · exact pv 8
      · refine sd_one ?_
        · refine sd_ret ?_
          · refine pd_mv ?_
            · exact pv 4
theorem sc_rises : FnScope ["text", "one", "other"] ["text"] (defScope s_rises) := ⟨rfl, rfl, rfl, by decide +kernel, rfl, by decide +kernel, by decide +kernel⟩
theorem ok_rises (Y : Facts P K mg T A k) : FnG P w K mg base 1 A.a_rises A.d_rises ["text"] (spF T 1 F_rises) :=
  fn_mk2 (k := 0) Y.f_rises sc_rises rfl rfl fun cdv A0 outer s H E hgd hr tk hp => by
    refine sd_one ?_
    · refine sd_ret ?_
      · refine pd_b1 finW (cr_all (by rfl)) sAll (by rfl) Y.z_all bt_all ?_
        · refine pd_v ?_
          · refine pd_fz ?_
            · refine pd_lc (own := [("one", 1), ("other", 2)]) (g := (gTup K 2 (gCons (gName 1) (gCons (gName 2) gNil)))) (by rfl) sc_rises.nd ?_ (blkOk_by (own := [("one", 1), ("other", 2)]) (N := ["text", "one", "other"]) (sc := defScope s_rises) (by decide +kernel)) ?_ ?_ ?_
              · refine pi_z (by rfl) Y.z_zip ?_ ?_
                · refine pd_nm ?_
                  · exact pv 0
                · refine pd_slN finD Y.hT ?_ ?_ ?_
                  · exact pv 0
                  · refine po_so ?_
                    · exact pd_int
                  · exact po_no
              · intro _ _ _ _ _
                refine gt_tup (by rfl) ?_ (by rfl)
                · refine gts_cons ?_ ?_
                  · exact gt_name sc_rises.nd (by rfl) (by first | exact Or.inl rfl | exact Or.inr rfl) (by decide)
                  · refine gts_cons ?_ ?_
                    · exact gt_name sc_rises.nd (by rfl) (by first | exact Or.inl rfl | exact Or.inr rfl) (by decide)
                    · exact gts_nil
              · intro _ _ _ _ _
                exact pts_yes
              · intro _ _ _ _ _
                refine pdc2n finD op_ltD sLt ?_ ?_ (by rfl)
                · exact pv 1
                · refine pd_pk ?_
                  · exact pv 2
theorem sc_is_signs : FnScope ["thing", "letter"] ["thing"] (defScope s_is_signs) := ⟨rfl, rfl, rfl, by decide +kernel, rfl, by decide +kernel, by decide +kernel⟩
theorem ok_is_signs (Y : Facts P K mg T A k) : FnG P w K mg base 2 A.a_is_signs A.d_is_signs ["thing"] (spF T 1 F_is_signs) :=
  fn_mk2 (k := 1) Y.f_is_signs sc_is_signs rfl rfl fun cdv A0 outer s H E hgd hr tk hp => by
    refine sd_cons ?_ ?_
    · refine sd_if ?_ ?_ ?_
      · refine PW.pt ?_
        · refine pw_or' ?_ ?_
          · refine pt_not' ?_
            · refine pt_e ?_
              · refine pd_v ?_
                · refine pd_isi finD (by decide) (by rfl) Y.z_isinstance (by rfl) Y.z_str bt_str ?_
                  · refine pd_pk ?_
                    · exact pv 0
          · refine pw_or1 ?_
            · refine pt_not' ?_
              · refine pt_ch op_le op_le sLe sLe ?_ ?_ ?_
                · exact pd_gi (by rfl) Y.c_LEAST_SIGNS
                · refine pd_b1 finD call_len sLen (by rfl) Y.z_len bt_len ?_
                  · refine pd_pk ?_
                    · exact pv 0
                · refine pd_v ?_
                  · exact pd_gi (by rfl) Y.c_MOST_SIGNS
      · refine sd_one ?_
        · refine sd_ret ?_
          · refine pd_lf ?_
            · exact pd_bl
      · exact sd_nil
    · refine sd_one ?_
      · refine sd_ret ?_
        · refine pd_lf ?_
          · refine pd_and ?_ ?_
            · refine pd_b1 finD (cr_all (by rfl)) sAll (by rfl) Y.z_all bt_all ?_
              · refine pd_v ?_
                · refine pd_fz ?_
                  · refine pd_lc (own := [("letter", 1)]) (g := (gName 1)) (by rfl) sc_is_signs.nd ?_ (blkOk_by (own := [("letter", 1)]) (N := ["thing", "letter"]) (sc := defScope s_is_signs) (by decide +kernel)) ?_ ?_ ?_
                    · refine pi_s ?_
                      · refine pd_nm ?_
                        · exact pv 0
                    · intro _ _ _ _ _
                      exact gt_name sc_is_signs.nd (by rfl) (by first | exact Or.inl rfl | exact Or.inr rfl) (by decide)
                    · intro _ _ _ _ _
                      exact pts_yes
                    · intro _ _ _ _ _
                      refine pdc2n finD op_inG sIn ?_ ?_ (by rfl)
                      · exact pv 1
                      · refine pd_v ?_
                        · exact pd_gs (by rfl) Y.c_LETTERS q_abcdefghijklmnopqrstuvwxyz
            · refine pd_one ?_
              · refine pd_fz ?_
                · refine pd_callE (ok_rises Y) hgd (hr.mono (by decide)) tk (by rfl) Y.m_rises Y.f_rises.kp Y.b_rises ?_ (by rfl)
                  · refine ar_v ?_ ?_
                    · exact pv 0
                    · exact ar_n
theorem sc_is_integer : FnScope ["thing"] ["thing"] (defScope s_is_integer) := ⟨rfl, rfl, rfl, by decide +kernel, rfl, by decide +kernel, by decide +kernel⟩
theorem ok_is_integer (Y : Facts P K mg T A k) : FnG P w K mg base 1 A.a_is_integer A.d_is_integer ["thing"] (spF T 1 F_is_integer) :=
  fn_mk2 (k := 0) Y.f_is_integer sc_is_integer rfl rfl fun cdv A0 outer s H E hgd hr tk hp => by
    refine sd_one ?_
    · refine sd_ret ?_
      · refine pd_lf ?_
        · refine pd_and ?_ ?_
          · refine pd_isi finD (by decide) (by rfl) Y.z_isinstance (by rfl) Y.z_int bt_int ?_
            · refine pd_pk ?_
              · exact pv 0
          · refine pd_one ?_
            · refine pd_not ?_
              · refine pd_v ?_
                · refine pd_isi finD (by decide) (by rfl) Y.z_isinstance (by rfl) Y.z_bool bt_bool ?_
                  · refine pd_pk ?_
                    · exact pv 0
theorem sc_is_width : FnScope ["thing"] ["thing"] (defScope s_is_width) := ⟨rfl, rfl, rfl, by decide +kernel, rfl, by decide +kernel, by decide +kernel⟩
theorem ok_is_width (Y : Facts P K mg T A k) : FnG P w K mg base 2 A.a_is_width A.d_is_width ["thing"] (spF T 1 F_is_width) :=
  fn_mk2 (k := 1) Y.f_is_width sc_is_width rfl rfl fun cdv A0 outer s H E hgd hr tk hp => by
    refine sd_one ?_
    · refine sd_ret ?_
      · refine pd_lf ?_
        · refine pd_and ?_ ?_
          · refine pd_fz ?_
            · refine pd_callE (ok_is_integer Y) hgd (hr.mono (by decide)) tk (by rfl) Y.m_is_integer Y.f_is_integer.kp Y.b_is_integer ?_ (by rfl)
              · refine ar_v ?_ ?_
                · exact pv 0
                · exact ar_n
          · refine pd_one ?_
            · refine pd_ch op_le op_le sLe sLe ?_ ?_ ?_
              · exact pd_int
              · refine pd_nm ?_
                · exact pv 0
              · refine pd_v ?_
                · exact pd_gi (by rfl) Y.c_MOST_WIDTH
theorem sc_Reader_init : FnScope ["self", "signs", "width"] ["self", "signs", "width"] (defScope s_Reader_init) := ⟨rfl, rfl, rfl, by decide +kernel, rfl, by decide +kernel, by decide +kernel⟩
theorem ok_Reader_init (Y : Facts P K mg T A k) : FnG P w K mg base 3 A.a_Reader_init A.d_Reader_init ["self", "signs", "width"] (spF T 3 F_Reader_init) :=
  fn_mk2 (k := 2) Y.f_Reader_init sc_Reader_init rfl rfl fun cdv A0 outer s H E hgd hr tk hp => by
    refine sd_cons ?_ ?_
    · refine sd_if ?_ ?_ ?_
      · refine pt_not' ?_
        · refine pt_e ?_
          · refine pd_v ?_
            · refine pd_fz ?_
              · refine pd_callE (ok_is_signs Y) hgd (hr.mono (by decide)) tk (by rfl) Y.m_is_signs Y.f_is_signs.kp Y.b_is_signs ?_ (by rfl)
                · refine ar_v ?_ ?_
                  · exact pv 1
                  · exact ar_n
      · refine sd_one ?_
        · exact sd_never
      · exact sd_nil
    · refine sd_cons ?_ ?_
      · refine sd_if ?_ ?_ ?_
        · refine pt_not' ?_
          · refine pt_e ?_
            · refine pd_v ?_
              · refine pd_fz ?_
                · refine pd_callE (ok_is_width Y) hgd (hr.mono (by decide)) tk (by rfl) Y.m_is_width Y.f_is_width.kp Y.b_is_width ?_ (by rfl)
                  · refine ar_v ?_ ?_
                    · exact pv 2
                    · exact ar_n
        · refine sd_one ?_
          · exact sd_never
        · exact sd_nil
      · refine sd_cons ?_ ?_
        · refine sd_setF Y.cl0 Y.n0_its_signs ?_ ?_
          · exact pv 0
          · refine pd_nm ?_
            · exact pv 1
        · refine sd_cons ?_ ?_
          · refine sd_setF Y.cl0 Y.n0_its_width ?_ ?_
            · exact pv 0
            · refine pd_nm ?_
              · exact pv 2
          · refine sd_cons ?_ ?_
            · refine sd_setF Y.cl0 Y.n0_its_text ?_ ?_
              · exact pv 0
              · exact pd_str q_e
            · refine sd_one ?_
              · refine sd_setF Y.cl0 Y.n0_its_number ?_ ?_
                · exact pv 0
                · exact pd_int
theorem sc_Reader_copied : FnScope ["self", "other"] ["self"] (defScope s_Reader_copied) := ⟨rfl, rfl, rfl, by decide +kernel, rfl, by decide +kernel, by decide +kernel⟩
theorem ok_Reader_copied (Y : Facts P K mg T A k) : FnG P w K mg base 5 A.a_Reader_copied A.d_Reader_copied ["self"] (spF T 1 F_Reader_copied) :=
  fn_mk2 (k := 4) Y.f_Reader_copied sc_Reader_copied rfl rfl fun cdv A0 outer s H E hgd hr tk hp => by
    refine sd_cons ?_ ?_
    · refine sd_set sc_Reader_copied.nd (by rfl) (by first | exact Or.inl rfl | exact Or.inr rfl) (by decide) ?_
      · refine pd_makeE Y.mk0 (ok_Reader_init Y) hgd (hr.mono (by decide)) tk (by rfl) Y.g0 Y.b_Reader_init ?_ (by rfl)
        · refine ar_d ?_ ?_
          · refine pd_fld finD Y.cl0 Y.n0_its_signs ?_
            · refine pd_pk ?_
              · exact pv 0
          · refine ar_d ?_ ?_
            · refine pd_fld finD Y.cl0 Y.n0_its_width ?_
              · refine pd_pk ?_
                · exact pv 0
            · exact ar_n
    · refine sd_cons ?_ ?_
      · refine sd_setF Y.cl0 Y.n0_its_text ?_ ?_
        · exact pv 1
        · refine pd_fld finD Y.cl0 Y.n0_its_text ?_
          · refine pd_pk ?_
            · exact pv 0
      · refine sd_cons ?_ ?_
        · refine sd_setF Y.cl0 Y.n0_its_number ?_ ?_
          · exact pv 1
          · refine pd_fld finD Y.cl0 Y.n0_its_number ?_
            · refine pd_pk ?_
              · exact pv 0
        · refine sd_one ?_
          · refine sd_ret ?_
            · refine pd_mv ?_
              · exact pv 1
theorem sc_is_text : FnScope ["signs", "thing", "letter"] ["signs", "thing"] (defScope s_is_text) := ⟨rfl, rfl, rfl, by decide +kernel, rfl, by decide +kernel, by decide +kernel⟩
theorem ok_is_text (Y : Facts P K mg T A k) : FnG P w K mg base 1 A.a_is_text A.d_is_text ["signs", "thing"] (spF T 2 F_is_text) :=
  fn_mk2 (k := 0) Y.f_is_text sc_is_text rfl rfl fun cdv A0 outer s H E hgd hr tk hp => by
    refine sd_one ?_
    · refine sd_ret ?_
      · refine pd_lf ?_
        · refine pd_and ?_ ?_
          · refine pd_isi finD (by decide) (by rfl) Y.z_isinstance (by rfl) Y.z_str bt_str ?_
            · refine pd_pk ?_
              · exact pv 1
          · refine pd_one ?_
            · refine pd_b1 finD (cr_all (by rfl)) sAll (by rfl) Y.z_all bt_all ?_
              · refine pd_v ?_
                · refine pd_fz ?_
                  · refine pd_lc (own := [("letter", 2)]) (g := (gName 2)) (by rfl) sc_is_text.nd ?_ (blkOk_by (own := [("letter", 2)]) (N := ["signs", "thing", "letter"]) (sc := defScope s_is_text) (by decide +kernel)) ?_ ?_ ?_
                    · refine pi_s ?_
                      · refine pd_nm ?_
                        · exact pv 1
                    · intro _ _ _ _ _
                      exact gt_name sc_is_text.nd (by rfl) (by first | exact Or.inl rfl | exact Or.inr rfl) (by decide)
                    · intro _ _ _ _ _
                      exact pts_yes
                    · intro _ _ _ _ _
                      refine pdc2n finD op_inG sIn ?_ ?_ (by rfl)
                      · exact pv 2
                      · refine pd_pk ?_
                        · exact pv 0
theorem sc_is_choice : FnScope ["signs", "thing"] ["signs", "thing"] (defScope s_is_choice) := ⟨rfl, rfl, rfl, by decide +kernel, rfl, by decide +kernel, by decide +kernel⟩
theorem ok_is_choice (Y : Facts P K mg T A k) : FnG P w K mg base 2 A.a_is_choice A.d_is_choice ["signs", "thing"] (spF T 2 F_is_choice) :=
  fn_mk2 (k := 1) Y.f_is_choice sc_is_choice rfl rfl fun cdv A0 outer s H E hgd hr tk hp => by
    refine sd_one ?_
    · refine sd_ret ?_
      · refine pd_lf ?_
        · refine pd_and ?_ ?_
          · refine pd_fz ?_
            · refine pd_callE (ok_is_text Y) hgd (hr.mono (by decide)) tk (by rfl) Y.m_is_text Y.f_is_text.kp Y.b_is_text ?_ (by rfl)
              · refine ar_v ?_ ?_
                · exact pv 0
                · refine ar_v ?_ ?_
                  · exact pv 1
                  · exact ar_n
          · refine pd_and ?_ ?_
            · refine pdc2n finD (op_neG hr.units) sNe ?_ ?_ (by rfl)
              · exact pv 1
              · refine pd_v ?_
                · exact pd_str q_e
            · refine pd_one ?_
              · refine pd_fz ?_
                · refine pd_callE (ok_rises Y) hgd (hr.mono (by decide)) tk (by rfl) Y.m_rises Y.f_rises.kp Y.b_rises ?_ (by rfl)
                  · refine ar_v ?_ ?_
                    · exact pv 1
                    · exact ar_n
theorem sc_is_run : FnScope ["thing"] ["thing"] (defScope s_is_run) := ⟨rfl, rfl, rfl, by decide +kernel, rfl, by decide +kernel, by decide +kernel⟩
theorem ok_is_run (Y : Facts P K mg T A k) : FnG P w K mg base 3 A.a_is_run A.d_is_run ["thing"] (spF T 1 F_is_run) :=
  fn_mk2 (k := 2) Y.f_is_run sc_is_run rfl rfl fun cdv A0 outer s H E hgd hr tk hp => by
    refine sd_cons ?_ ?_
    · refine sd_if ?_ ?_ ?_
      · refine PW.pt ?_
        · refine pw_or' ?_ ?_
          · refine pt_c2 (op_neG hr.units) sNe ?_ ?_ (by rfl)
            · refine pd_b1 finD call_len sLen (by rfl) Y.z_len bt_len ?_
              · refine pd_pk ?_
                · exact pv 0
            · refine pd_v ?_
              · exact pd_int
          · refine pw_or1 ?_
            · refine pt_not' ?_
              · refine pt_e ?_
                · refine pd_v ?_
                  · refine pd_fz ?_
                    · refine pd_callE (ok_is_width Y) hgd (hr.mono (by decide)) tk (by rfl) Y.m_is_width Y.f_is_width.kp Y.b_is_width ?_ (by rfl)
                      · refine ar_d ?_ ?_
                        · refine pdx2n finD ix_seq sIxD ?_ ?_ (fun _ _ => rfl)
                          · exact pv 0
                          · refine pd_v ?_
                            · exact pd_int
                        · exact ar_n
      · refine sd_one ?_
        · refine sd_ret ?_
          · refine pd_lf ?_
            · exact pd_bl
      · exact sd_nil
    · refine sd_one ?_
      · refine sd_ret ?_
        · refine pd_lf ?_
          · refine pd_and ?_ ?_
            · refine pd_fz ?_
              · refine pd_callE (ok_is_integer Y) hgd (hr.mono (by decide)) tk (by rfl) Y.m_is_integer Y.f_is_integer.kp Y.b_is_integer ?_ (by rfl)
                · refine ar_d ?_ ?_
                  · refine pdx2n finD ix_seq sIxD ?_ ?_ (fun _ _ => rfl)
                    · exact pv 0
                    · refine pd_v ?_
                      · exact pd_int
                  · exact ar_n
            · refine pd_one ?_
              · refine pd_ch op_le op_le sLe sLe ?_ ?_ ?_
                · exact pd_int
                · refine pdx2n finD ix_seq sIxD ?_ ?_ (fun _ _ => rfl)
                  · exact pv 0
                  · refine pd_v ?_
                    · exact pd_int
                · refine pd_v ?_
                  · exact pd_gi (by rfl) Y.c_MOST_SIZE
theorem sc_is_token : FnScope ["signs", "thing", "word"] ["signs", "thing"] (defScope s_is_token) := ⟨rfl, rfl, rfl, by decide +kernel, rfl, by decide +kernel, by decide +kernel⟩
theorem ok_is_token (Y : Facts P K mg T A k) : FnG P w K mg base 4 A.a_is_token A.d_is_token ["signs", "thing"] (spF T 2 F_is_token) :=
  fn_mk2 (k := 3) Y.f_is_token sc_is_token rfl rfl fun cdv A0 outer s H E hgd hr tk hp => by
    refine sd_cons ?_ ?_
    · refine sd_if ?_ ?_ ?_
      · refine PW.pt ?_
        · refine pw_or' ?_ ?_
          · refine pt_not' ?_
            · refine pt_e ?_
              · refine pd_v ?_
                · refine pd_isi finD (by decide) (by rfl) Y.z_isinstance (by rfl) Y.z_tuple bt_tuple ?_
                  · refine pd_pk ?_
                    · exact pv 1
          · refine pw_or' ?_ ?_
            · refine pt_c2n (op_eqG hr.units) sEq ?_ ?_ (by rfl)
              · exact pv 1
              · refine pd_v ?_
                · refine pd_tupE finD ?_
                  · exact il_n
            · refine pw_or1 ?_
              · refine pt_not' ?_
                · refine pt_e ?_
                  · refine pd_v ?_
                    · refine pd_isi finD (by decide) (by rfl) Y.z_isinstance (by rfl) Y.z_str bt_str ?_
                      · refine pd_v ?_
                        · refine pdx2n finD ix_seq sIxD ?_ ?_ (fun _ _ => rfl)
                          · exact pv 1
                          · refine pd_v ?_
                            · exact pd_int
      · refine sd_one ?_
        · refine sd_ret ?_
          · refine pd_lf ?_
            · exact pd_bl
      · exact sd_nil
    · refine sd_cons ?_ ?_
      · refine sd_set sc_is_token.nd (by rfl) (by first | exact Or.inl rfl | exact Or.inr rfl) (by decide) ?_
        · refine pdx2n finW ix_seq sIxD ?_ ?_ (fun _ _ => rfl)
          · exact pv 1
          · refine pd_v ?_
            · exact pd_int
      · refine sd_cons ?_ ?_
        · refine sd_if ?_ ?_ ?_
          · refine pt_c2n (op_eqG hr.units) sEq ?_ ?_ (by rfl)
            · exact pv 2
            · refine pd_v ?_
              · exact pd_str q_text
          · refine sd_one ?_
            · refine sd_ret ?_
              · refine pd_lf ?_
                · refine pd_and ?_ ?_
                  · refine pdc2 finD (op_eqG hr.units) sEq ?_ ?_ (by rfl)
                    · refine pd_b1 finD call_len sLen (by rfl) Y.z_len bt_len ?_
                      · refine pd_pk ?_
                        · exact pv 1
                    · refine pd_v ?_
                      · exact pd_int
                  · refine pd_and ?_ ?_
                    · refine pd_fz ?_
                      · refine pd_callE (ok_is_text Y) hgd (hr.mono (by decide)) tk (by rfl) Y.m_is_text Y.f_is_text.kp Y.b_is_text ?_ (by rfl)
                        · refine ar_v ?_ ?_
                          · exact pv 0
                          · refine ar_d ?_ ?_
                            · refine pdx2n finD ix_seq sIxD ?_ ?_ (fun _ _ => rfl)
                              · exact pv 1
                              · refine pd_v ?_
                                · exact pd_int
                            · exact ar_n
                    · refine pd_one ?_
                      · refine pd_ch op_le op_le sLe sLe ?_ ?_ ?_
                        · exact pd_int
                        · refine pd_b1 finD call_len sLen (by rfl) Y.z_len bt_len ?_
                          · refine pd_v ?_
                            · refine pdx2n finD ix_seq sIxD ?_ ?_ (fun _ _ => rfl)
                              · exact pv 1
                              · refine pd_v ?_
                                · exact pd_int
                        · refine pd_v ?_
                          · exact pd_gi (by rfl) Y.c_MOST_SIZE
          · exact sd_nil
        · refine sd_cons ?_ ?_
          · refine sd_if ?_ ?_ ?_
            · refine pt_c2n (op_eqG hr.units) sEq ?_ ?_ (by rfl)
              · exact pv 2
              · refine pd_v ?_
                · exact pd_str q_any
            · refine sd_one ?_
              · refine sd_ret ?_
                · refine pd_lf ?_
                  · refine pd_and ?_ ?_
                    · refine pdc2 finD (op_eqG hr.units) sEq ?_ ?_ (by rfl)
                      · refine pd_b1 finD call_len sLen (by rfl) Y.z_len bt_len ?_
                        · refine pd_pk ?_
                          · exact pv 1
                      · refine pd_v ?_
                        · exact pd_int
                    · refine pd_one ?_
                      · refine pd_fz ?_
                        · refine pd_callE (ok_is_choice Y) hgd (hr.mono (by decide)) tk (by rfl) Y.m_is_choice Y.f_is_choice.kp Y.b_is_choice ?_ (by rfl)
                          · refine ar_v ?_ ?_
                            · exact pv 0
                            · refine ar_d ?_ ?_
                              · refine pdx2n finD ix_seq sIxD ?_ ?_ (fun _ _ => rfl)
                                · exact pv 1
                                · refine pd_v ?_
                                  · exact pd_int
                              · exact ar_n
            · exact sd_nil
          · refine sd_cons ?_ ?_
            · refine sd_if ?_ ?_ ?_
              · refine pt_c2n op_inG sIn ?_ ?_ (by rfl)
                · exact pv 2
                · refine pd_v ?_
                  · refine pd_tupE finD ?_
                    · refine il_c ?_ ?_
                      · exact pd_str q_copy
                      · refine il_c ?_ ?_
                        · exact pd_str q_say
                        · exact il_n
              · refine sd_one ?_
                · refine sd_ret ?_
                  · refine pd_callE (ok_is_run Y) hgd (hr.mono (by decide)) tk (by rfl) Y.m_is_run Y.f_is_run.kp Y.b_is_run ?_ (by rfl)
                    · refine ar_v ?_ ?_
                      · exact pv 1
                      · exact ar_n
              · exact sd_nil
            · refine sd_one ?_
              · refine sd_ret ?_
                · refine pdc2n finW (op_eqG hr.units) sEq ?_ ?_ (by rfl)
                  · exact pv 1
                  · refine pd_v ?_
                    · refine pd_tupE finD ?_
                      · refine il_c ?_ ?_
                        · exact pd_str q_flush
                        · exact il_n
theorem sc_is_plain : FnScope ["signs", "thing"] ["signs", "thing"] (defScope s_is_plain) := ⟨rfl, rfl, rfl, by decide +kernel, rfl, by decide +kernel, by decide +kernel⟩
theorem ok_is_plain (Y : Facts P K mg T A k) : FnG P w K mg base 5 A.a_is_plain A.d_is_plain ["signs", "thing"] (spF T 2 F_is_plain) :=
  fn_mk2 (k := 4) Y.f_is_plain sc_is_plain rfl rfl fun cdv A0 outer s H E hgd hr tk hp => by
    refine sd_one ?_
    · refine sd_ret ?_
      · refine pd_lf ?_
        · refine pd_and ?_ ?_
          · refine pd_fz ?_
            · refine pd_callE (ok_is_token Y) hgd (hr.mono (by decide)) tk (by rfl) Y.m_is_token Y.f_is_token.kp Y.b_is_token ?_ (by rfl)
              · refine ar_v ?_ ?_
                · exact pv 0
                · refine ar_v ?_ ?_
                  · exact pv 1
                  · exact ar_n
          · refine pd_one ?_
            · refine pdc2 finD op_inG sIn ?_ ?_ (by rfl)
              · refine pdx2n finD ix_seq sIxD ?_ ?_ (fun _ _ => rfl)
                · exact pv 1
                · refine pd_v ?_
                  · exact pd_int
              · refine pd_v ?_
                · refine pd_tupE finD ?_
                  · refine il_c ?_ ?_
                    · exact pd_str q_text
                    · refine il_c ?_ ?_
                      · exact pd_str q_copy
                      · refine il_c ?_ ?_
                        · exact pd_str q_flush
                        · exact il_n
theorem sc_is_readable : FnScope ["signs", "width", "thing"] ["signs", "width", "thing"] (defScope s_is_readable) := ⟨rfl, rfl, rfl, by decide +kernel, rfl, by decide +kernel, by decide +kernel⟩
theorem ok_is_readable (Y : Facts P K mg T A k) : FnG P w K mg base 6 A.a_is_readable A.d_is_readable ["signs", "width", "thing"] (spF T 3 F_is_readable) :=
  fn_mk2 (k := 5) Y.f_is_readable sc_is_readable rfl rfl fun cdv A0 outer s H E hgd hr tk hp => by
    refine sd_one ?_
    · refine sd_ret ?_
      · refine pd_lf ?_
        · refine pd_and ?_ ?_
          · refine pd_fz ?_
            · refine pd_callE (ok_is_plain Y) hgd (hr.mono (by decide)) tk (by rfl) Y.m_is_plain Y.f_is_plain.kp Y.b_is_plain ?_ (by rfl)
              · refine ar_v ?_ ?_
                · exact pv 0
                · refine ar_v ?_ ?_
                  · exact pv 2
                  · exact ar_n
          · refine pd_one ?_
            · refine pd_or ?_ ?_
              · refine pdc2 finD (op_neG hr.units) sNe ?_ ?_ (by rfl)
                · refine pdx2n finD ix_seq sIxD ?_ ?_ (fun _ _ => rfl)
                  · exact pv 2
                  · refine pd_v ?_
                    · exact pd_int
                · refine pd_v ?_
                  · exact pd_str q_copy
              · refine pd_one ?_
                · refine pdc2 finD op_le sLe ?_ ?_ (by rfl)
                  · refine pdx2n finD ix_seq sIxD ?_ ?_ (fun _ _ => rfl)
                    · exact pv 2
                    · refine pd_v ?_
                      · exact pd_int
                  · refine pd_pk ?_
                    · exact pv 1
theorem sc_Reader_note : FnScope ["self", "text"] ["self", "text"] (defScope s_Reader_note) := ⟨rfl, rfl, rfl, by decide +kernel, rfl, by decide +kernel, by decide +kernel⟩
theorem ok_Reader_note (Y : Facts P K mg T A k) : FnG P w K mg base 1 A.a_Reader_note A.d_Reader_note ["self", "text"] (spF T 2 F_Reader_note) :=
  fn_mk2 (k := 0) Y.f_Reader_note sc_Reader_note rfl rfl fun cdv A0 outer s H E hgd hr tk hp => by
    refine sd_cons ?_ ?_
    · refine sd_augF Y.cl0 Y.n0_its_text ?_ iop_iadd sIadd ?_
      · exact pv 0
      · refine pd_pk ?_
        · exact pv 1
    · refine sd_cons ?_ ?_
      · refine sd_setF Y.cl0 Y.n0_its_number ?_ ?_
        · exact pv 0
        · refine pd_b2 finD (call_min2 (by rfl)) sMin2 (by rfl) Y.z_min bt_min ?_ ?_
          · refine pd_fld finD Y.cl0 Y.n0_its_width ?_
            · refine pd_pk ?_
              · exact pv 0
          · refine pd_v ?_
            · refine pd2 finD op_addD sAdd ?_ ?_
              · refine pd_fld finD Y.cl0 Y.n0_its_number ?_
                · refine pd_pk ?_
                  · exact pv 0
              · refine pd_v ?_
                · refine pd_b1 finD call_len sLen (by rfl) Y.z_len bt_len ?_
                  · refine pd_pk ?_
                    · exact pv 1
      · refine sd_one ?_
        · refine sd_ret ?_
          · refine pd_lf ?_
            · refine pd_nm ?_
              · exact pv 1
theorem sc_copied_signs : FnScope ["text", "distance", "many", "found", "k"] ["text", "distance", "many"] (defScope s_copied_signs) := ⟨rfl, rfl, rfl, by decide +kernel, rfl, by decide +kernel, by decide +kernel⟩
theorem ok_copied_signs (Y : Facts P K mg T A k) : FnG P w K mg base 1 A.a_copied_signs A.d_copied_signs ["text", "distance", "many"] (spF T 3 F_copied_signs) :=
  fn_mk2 (k := 0) Y.f_copied_signs sc_copied_signs rfl rfl fun cdv A0 outer s H E hgd hr tk hp => by
    refine sd_cons ?_ ?_
    · refine sd_set sc_copied_signs.nd (by rfl) (by first | exact Or.inl rfl | exact Or.inr rfl) (by decide) ?_
      · refine pd_lf ?_
        · exact pd_str q_e
    · refine sd_cons ?_ ?_
      · refine sd_forE hp (by rfl) ?_ ?_ ?_
        · refine pi_r1 (by rfl) Y.z_range ?_
          · refine pd_nm ?_
            · exact pv 2
        · exact ge_name sc_copied_signs.nd (by rfl) (by first | exact Or.inl rfl | exact Or.inr rfl) (by decide)
        · refine sd_one ?_
          · refine sd_aug sc_copied_signs.nd (by rfl) (by first | exact Or.inl rfl | exact Or.inr rfl) (by decide) iop_iadd sIadd ?_
            · refine pd_v ?_
              · refine pdx2 finD ix_seq sIxD ?_ ?_ (fun _ _ => rfl)
                · refine pd2n finD op_addD sAdd ?_ ?_
                  · exact pv 0
                  · refine pd_pk ?_
                    · exact pv 3
                · refine pd_v ?_
                  · refine pd2 finD op_sub sSub ?_ ?_
                    · refine pd2 finD op_addD sAdd ?_ ?_
                      · refine pd_b1 finD call_len sLen (by rfl) Y.z_len bt_len ?_
                        · refine pd_pk ?_
                          · exact pv 0
                      · refine pd_pk ?_
                        · exact pv 4
                    · refine pd_pk ?_
                      · exact pv 1
      · refine sd_one ?_
        · refine sd_ret ?_
          · refine pd_mv ?_
            · exact pv 3
theorem sc_Reader_kept : FnScope ["self"] ["self"] (defScope s_Reader_kept) := ⟨rfl, rfl, rfl, by decide +kernel, rfl, by decide +kernel, by decide +kernel⟩
theorem ok_Reader_kept (Y : Facts P K mg T A k) : FnG P w K mg base 1 A.a_Reader_kept A.d_Reader_kept ["self"] (spF T 1 F_Reader_kept) :=
  fn_mk2 (k := 0) Y.f_Reader_kept sc_Reader_kept rfl rfl fun cdv A0 outer s H E hgd hr tk hp => by
    refine sd_one ?_
    · refine sd_ret ?_
      · refine pd_sl finW Y.hT ?_ ?_ ?_
        · refine pd_fld finD Y.cl0 Y.n0_its_text ?_
          · refine pd_pk ?_
            · exact pv 0
        · refine po_so ?_
          · refine pd2 finD op_sub sSub ?_ ?_
            · refine pd_b1 finD call_len sLen (by rfl) Y.z_len bt_len ?_
              · refine pd_v ?_
                · refine pd_fld finD Y.cl0 Y.n0_its_text ?_
                  · refine pd_pk ?_
                    · exact pv 0
            · refine pd_v ?_
              · refine pd_fld finD Y.cl0 Y.n0_its_number ?_
                · refine pd_pk ?_
                  · exact pv 0
        · exact po_no
theorem sc_Reader_read : FnScope ["self", "token", "distance", "many"] ["self", "token"] (defScope s_Reader_read) := ⟨rfl, rfl, rfl, by decide +kernel, rfl, by decide +kernel, by decide +kernel⟩
theorem ok_Reader_read (Y : Facts P K mg T A k) : FnG P w K mg base 7 A.a_Reader_read A.d_Reader_read ["self", "token"] (spF T 2 F_Reader_read) :=
  fn_mk2 (k := 6) Y.f_Reader_read sc_Reader_read rfl rfl fun cdv A0 outer s H E hgd hr tk hp => by
    refine sd_cons ?_ ?_
    · refine sd_if ?_ ?_ ?_
      · refine pt_not' ?_
        · refine pt_e ?_
          · refine pd_v ?_
            · refine pd_fz ?_
              · refine pd_callE (ok_is_readable Y) hgd (hr.mono (by decide)) tk (by rfl) Y.m_is_readable Y.f_is_readable.kp Y.b_is_readable ?_ (by rfl)
                · refine ar_d ?_ ?_
                  · refine pd_fld finD Y.cl0 Y.n0_its_signs ?_
                    · refine pd_pk ?_
                      · exact pv 0
                  · refine ar_d ?_ ?_
                    · refine pd_fld finD Y.cl0 Y.n0_its_width ?_
                      · refine pd_pk ?_
                        · exact pv 0
                    · refine ar_v ?_ ?_
                      · exact pv 1
                      · exact ar_n
      · refine sd_one ?_
        · exact sd_never
      · exact sd_nil
    · refine sd_cons ?_ ?_
      · refine sd_if ?_ ?_ ?_
        · refine pt_c2 (op_eqG hr.units) sEq ?_ ?_ (by rfl)
          · refine pdx2n finD ix_seq sIxD ?_ ?_ (fun _ _ => rfl)
            · exact pv 1
            · refine pd_v ?_
              · exact pd_int
          · refine pd_v ?_
            · exact pd_str q_flush
        · refine sd_cons ?_ ?_
          · refine sd_setF Y.cl0 Y.n0_its_number ?_ ?_
            · exact pv 0
            · exact pd_int
          · refine sd_one ?_
            · refine sd_ret ?_
              · refine pd_lf ?_
                · exact pd_str q_e
        · exact sd_nil
      · refine sd_cons ?_ ?_
        · refine sd_if ?_ ?_ ?_
          · refine pt_c2 (op_eqG hr.units) sEq ?_ ?_ (by rfl)
            · refine pdx2n finD ix_seq sIxD ?_ ?_ (fun _ _ => rfl)
              · exact pv 1
              · refine pd_v ?_
                · exact pd_int
            · refine pd_v ?_
              · exact pd_str q_text
          · refine sd_one ?_
            · refine sd_ret ?_
              · refine pd_methE ?_ Y.cl0 Y.t_Reader_note (ok_Reader_note Y) hgd (hr.mono (by decide)) tk Y.b_Reader_note ?_ (by rfl)
                · exact pv 0
                · refine ar_d ?_ ?_
                  · refine pdx2n finD ix_seq sIxD ?_ ?_ (fun _ _ => rfl)
                    · exact pv 1
                    · refine pd_v ?_
                      · exact pd_int
                  · exact ar_n
          · exact sd_nil
        · refine sd_cons ?_ ?_
          · refine sd_asgTE ?_ ?_
            · refine ge_tup (by rfl) ?_ (by rfl)
              · refine ges_cons ?_ ?_
                · exact ge_name sc_Reader_read.nd (by rfl) (by first | exact Or.inl rfl | exact Or.inr rfl) (by decide)
                · refine ges_cons ?_ ?_
                  · exact ge_name sc_Reader_read.nd (by rfl) (by first | exact Or.inl rfl | exact Or.inr rfl) (by decide)
                  · exact ges_nil
            · refine pd_slN finD Y.hT ?_ ?_ ?_
              · exact pv 1
              · refine po_so ?_
                · exact pd_int
              · exact po_no
          · refine sd_cons ?_ ?_
            · refine sd_if ?_ ?_ ?_
              · refine pt_c2n op_gt sGt ?_ ?_ (by rfl)
                · exact pv 2
                · refine pd_v ?_
                  · refine pd_fld finD Y.cl0 Y.n0_its_number ?_
                    · refine pd_pk ?_
                      · exact pv 0
              · refine sd_one ?_
                · exact sd_never
              · exact sd_nil
            · refine sd_one ?_
              · refine sd_ret ?_
                · refine pd_methE ?_ Y.cl0 Y.t_Reader_note (ok_Reader_note Y) hgd (hr.mono (by decide)) tk Y.b_Reader_note ?_ (by rfl)
                  · exact pv 0
                  · refine ar_d ?_ ?_
                    · refine pd_fz ?_
                      · refine pd_callE (ok_copied_signs Y) hgd (hr.mono (by decide)) tk (by rfl) Y.m_copied_signs Y.f_copied_signs.kp Y.b_copied_signs ?_ (by rfl)
                        · refine ar_d ?_ ?_
                          · refine pd_fz ?_
                            · refine pd_meth0 ?_ Y.cl0 Y.t_Reader_kept (ok_Reader_kept Y) hgd (hr.mono (by decide)) tk Y.b_Reader_kept
                              · exact pv 0
                          · refine ar_v ?_ ?_
                            · exact pv 2
                            · refine ar_v ?_ ?_
                              · exact pv 3
                              · exact ar_n
                    · exact ar_n
theorem sc_Reader_read_all : FnScope ["self", "tokens", "trial", "found", "token"] ["self", "tokens"] (defScope s_Reader_read_all) := ⟨rfl, rfl, rfl, by decide +kernel, rfl, by decide +kernel, by decide +kernel⟩
theorem ok_Reader_read_all (Y : Facts P K mg T A k) : FnG P w K mg base 8 A.a_Reader_read_all A.d_Reader_read_all ["self", "tokens"] (spF T 2 F_Reader_read_all) :=
  fn_mk2 (k := 7) Y.f_Reader_read_all sc_Reader_read_all rfl rfl fun cdv A0 outer s H E hgd hr tk hp => by
    refine sd_cons ?_ ?_
    · refine sd_set sc_Reader_read_all.nd (by rfl) (by first | exact Or.inl rfl | exact Or.inr rfl) (by decide) ?_
      · refine pd_meth0 ?_ Y.cl0 Y.t_Reader_copied (ok_Reader_copied Y) hgd (hr.mono (by decide)) tk Y.b_Reader_copied
        · exact pv 0
    · refine sd_cons ?_ ?_
      · refine sd_set sc_Reader_read_all.nd (by rfl) (by first | exact Or.inl rfl | exact Or.inr rfl) (by decide) ?_
        · refine pd_join finW q_e ?_
          · refine pd_v ?_
            · refine pd_fz ?_
              · refine pd_lcN (own := [("token", 4)]) (g := (gName 4)) (by rfl) sc_Reader_read_all.nd ?_ (blkOk_by (own := [("token", 4)]) (N := ["self", "tokens", "trial", "found", "token"]) (sc := defScope s_Reader_read_all) (by decide +kernel)) ?_ ?_ ?_
                · exact pv 1
                · intro _ _ _ _ _
                  exact gt_name sc_Reader_read_all.nd (by rfl) (by first | exact Or.inl rfl | exact Or.inr rfl) (by decide)
                · intro _ _ _ _ _
                  exact pts_yes
                · intro _ _ _ _ _
                  refine pd_fz ?_
                  · refine pd_methE ?_ Y.cl0 Y.t_Reader_read (ok_Reader_read Y) hgd (hr.mono (by decide)) L2.takes0 Y.b_Reader_read ?_ (by rfl)
                    · exact pv 2
                    · refine ar_v ?_ ?_
                      · exact pv 4
                      · exact ar_n
      · refine sd_cons ?_ ?_
        · refine sd_setF Y.cl0 Y.n0_its_text ?_ ?_
          · exact pv 0
          · refine pd_fld finD Y.cl0 Y.n0_its_text ?_
            · refine pd_pk ?_
              · exact pv 2
        · refine sd_cons ?_ ?_
          · refine sd_setF Y.cl0 Y.n0_its_number ?_ ?_
            · exact pv 0
            · refine pd_fld finD Y.cl0 Y.n0_its_number ?_
              · refine pd_pk ?_
                · exact pv 2
          · refine sd_one ?_
            · refine sd_ret ?_
              · refine pd_mv ?_
                · exact pv 3
theorem sc_block_texts : FnScope ["signs", "width", "blocks", "reader", "block"] ["signs", "width", "blocks"] (defScope s_block_texts) := ⟨rfl, rfl, rfl, by decide +kernel, rfl, by decide +kernel, by decide +kernel⟩
theorem ok_block_texts (Y : Facts P K mg T A k) : FnG P w K mg base 9 A.a_block_texts A.d_block_texts ["signs", "width", "blocks"] (spF T 3 F_block_texts) :=
  fn_mk2 (k := 8) Y.f_block_texts sc_block_texts rfl rfl fun cdv A0 outer s H E hgd hr tk hp => by
    refine sd_cons ?_ ?_
    · refine sd_set sc_block_texts.nd (by rfl) (by first | exact Or.inl rfl | exact Or.inr rfl) (by decide) ?_
      · refine pd_makeE Y.mk0 (ok_Reader_init Y) hgd (hr.mono (by decide)) tk (by rfl) Y.g0 Y.b_Reader_init ?_ (by rfl)
        · refine ar_v ?_ ?_
          · exact pv 0
          · refine ar_v ?_ ?_
            · exact pv 1
            · exact ar_n
    · refine sd_one ?_
      · refine sd_ret ?_
        · refine pd_lcN (own := [("block", 4)]) (g := (gName 4)) (by rfl) sc_block_texts.nd ?_ (blkOk_by (own := [("block", 4)]) (N := ["signs", "width", "blocks", "reader", "block"]) (sc := defScope s_block_texts) (by decide +kernel)) ?_ ?_ ?_
          · exact pv 2
          · intro _ _ _ _ _
            exact gt_name sc_block_texts.nd (by rfl) (by first | exact Or.inl rfl | exact Or.inr rfl) (by decide)
          · intro _ _ _ _ _
            exact pts_yes
          · intro _ _ _ _ _
            refine pd_fz ?_
            · refine pd_methE ?_ Y.cl0 Y.t_Reader_read_all (ok_Reader_read_all Y) hgd (hr.mono (by decide)) L2.takes0 Y.b_Reader_read_all ?_ (by rfl)
              · exact pv 3
              · refine ar_v ?_ ?_
                · exact pv 4
                · exact ar_n
theorem sc_l_backs : FnScope ["_law_blocks_here", "_law_found", "_law_at", "_law_token", "_law_k"] ["_law_blocks_here"] (defScope s_l_backs) := ⟨rfl, rfl, rfl, by decide +kernel, rfl, by decide +kernel, by decide +kernel⟩
theorem ok_l_backs (Y : Facts P K mg T A k) : FnG P w K mg base 2 A.a_l_backs A.d_l_backs ["_law_blocks_here"] (spF T 1 F_l_backs) :=
  fn_mk2 (k := 1) Y.f_l_backs sc_l_backs rfl rfl fun cdv A0 outer s H E hgd hr tk hp => by
    refine sd_cons ?_ ?_
    · refine sd_set sc_l_backs.nd (by rfl) (by first | exact Or.inl rfl | exact Or.inr rfl) (by decide) ?_
      · refine pd_lstE finW ?_
        · exact il_n
    · refine sd_cons ?_ ?_
      · refine sd_forE hp (by rfl) ?_ ?_ ?_
        · refine pi_r1 (by rfl) Y.z_range ?_
          · refine pd_b1 finD call_len sLen (by rfl) Y.z_len bt_len ?_
            · refine pd_pk ?_
              · exact pv 0
        · exact ge_name sc_l_backs.nd (by rfl) (by first | exact Or.inl rfl | exact Or.inr rfl) (by decide)
        · refine sd_one ?_
          · refine sd_forE hp (by rfl) ?_ ?_ ?_
            · refine pi_l ?_
              · refine pdx2n finD ix_seq sIxD ?_ ?_ (fun _ _ => rfl)
                · exact pv 0
                · refine pd_pk ?_
                  · exact pv 2
            · exact ge_name sc_l_backs.nd (by rfl) (by first | exact Or.inl rfl | exact Or.inr rfl) (by decide)
            · refine sd_one ?_
              · refine sd_forE hp (by rfl) ?_ ?_ ?_
                · refine pi_r1 (by rfl) Y.z_range ?_
                  · refine pd_fz ?_
                    · refine pd_callE (ok_l_size Y) hgd (hr.mono (by decide)) tk (by rfl) Y.m_l_size Y.f_l_size.kp Y.b_l_size ?_ (by rfl)
                      · refine ar_v ?_ ?_
                        · exact pv 3
                        · exact ar_n
                · exact ge_name sc_l_backs.nd (by rfl) (by first | exact Or.inl rfl | exact Or.inr rfl) (by decide)
                · refine sd_one ?_
                  · refine sd_drop (κ := KD) ?_
                    · refine pd_app ?_ ?_
                      · exact pv 1
                      · refine pd_tupE finD ?_
                        · refine il_c ?_ ?_
                          · refine pd_nm ?_
                            · exact pv 2
                          · refine il_c ?_ ?_
                            · refine pd_ifx ?_ ?_ ?_
                              · refine pt_c2 (op_eqG hr.units) sEq ?_ ?_ (by rfl)
                                · refine pdx2n finD ix_seq sIxD ?_ ?_ (fun _ _ => rfl)
                                  · exact pv 3
                                  · refine pd_v ?_
                                    · exact pd_int
                                · refine pd_v ?_
                                  · exact pd_str q_copy
                              · refine pd2 finD op_sub sSub ?_ ?_
                                · refine pd_b1 finD call_len sLen (by rfl) Y.z_len bt_len ?_
                                  · refine pd_pk ?_
                                    · exact pv 1
                                · refine pd_v ?_
                                  · refine pdx2n finD ix_seq sIxD ?_ ?_ (fun _ _ => rfl)
                                    · exact pv 3
                                    · refine pd_v ?_
                                      · exact pd_int
                              · exact pd_non
                            · exact il_n
      · refine sd_one ?_
        · refine sd_ret ?_
          · refine pd_mv ?_
            · exact pv 1
theorem sc_l_needed : FnScope ["_law_blocks_here", "_law_index", "_law_sources", "_law_found", "_law_k", "_law_at", "_law_back"] ["_law_blocks_here", "_law_index"] (defScope s_l_needed) := ⟨rfl, rfl, rfl, by decide +kernel, rfl, by decide +kernel, by decide +kernel⟩
theorem ok_l_needed (Y : Facts P K mg T A k) : FnG P w K mg base 3 A.a_l_needed A.d_l_needed ["_law_blocks_here", "_law_index"] (spF T 2 F_l_needed) :=
  fn_mk2 (k := 2) Y.f_l_needed sc_l_needed rfl rfl fun cdv A0 outer s H E hgd hr tk hp => by
    refine sd_cons ?_ ?_
    · refine sd_par (by rfl) sc_l_needed.nd (by rfl) (by rfl) (by decide) (by decide) (by decide) (by rfl) (by rfl) ?_ ?_
      · refine pd_callE (ok_l_backs Y) hgd (hr.mono (by decide)) tk (by rfl) Y.m_l_backs Y.f_l_backs.kp Y.b_l_backs ?_ (by rfl)
        · refine ar_v ?_ ?_
          · exact pv 0
          · exact ar_n
      · refine pd_lstE finW ?_
        · refine il_c ?_ ?_
          · refine pd_nm ?_
            · exact pv 1
          · exact il_n
    · refine sd_cons ?_ ?_
      · refine sd_forE hp (by rfl) ?_ ?_ ?_
        · refine pi_r1 (by rfl) Y.z_range ?_
          · refine pd_b1 finD call_len sLen (by rfl) Y.z_len bt_len ?_
            · refine pd_pk ?_
              · exact pv 2
        · exact ge_name sc_l_needed.nd (by rfl) (by first | exact Or.inl rfl | exact Or.inr rfl) (by decide)
        · refine sd_cons ?_ ?_
          · refine sd_asgTE ?_ ?_
            · refine ge_tup (by rfl) ?_ (by rfl)
              · refine ges_cons ?_ ?_
                · exact ge_name sc_l_needed.nd (by rfl) (by first | exact Or.inl rfl | exact Or.inr rfl) (by decide)
                · refine ges_cons ?_ ?_
                  · exact ge_name sc_l_needed.nd (by rfl) (by first | exact Or.inl rfl | exact Or.inr rfl) (by decide)
                  · exact ges_nil
            · refine pdx2n finD ix_seq sIxD ?_ ?_ (fun _ _ => rfl)
              · exact pv 2
              · refine pd_pk ?_
                · exact pv 4
          · refine sd_one ?_
            · refine sd_while (fun _ => FUEL) hp ?_ ?_
              · refine PW.pt ?_
                · refine pw_and' ?_ ?_
                  · refine pt_notN ?_
                    · refine pd_pk ?_
                      · exact pv 5
                  · refine pw_and1 ?_
                    · refine pt_c2 (op_eqG hr.units) sEq ?_ ?_ (by rfl)
                      · refine pdx2 finD ix_seq sIxD ?_ ?_ (fun _ _ => rfl)
                        · refine pdx2n finD ix_seq sIxD ?_ ?_ (fun _ _ => rfl)
                          · exact pv 2
                          · refine pd_pk ?_
                            · exact pv 4
                        · refine pd_v ?_
                          · exact pd_int
                      · refine pd_pk ?_
                        · exact pv 1
              · refine sd_cons ?_ ?_
                · refine sd_drop (κ := KD) ?_
                  · refine pd_app ?_ ?_
                    · exact pv 3
                    · refine pd_nm ?_
                      · exact pv 5
                · refine sd_one ?_
                  · refine sd_asgTE ?_ ?_
                    · refine ge_tup (by rfl) ?_ (by rfl)
                      · refine ges_cons ?_ ?_
                        · exact ge_name sc_l_needed.nd (by rfl) (by first | exact Or.inl rfl | exact Or.inr rfl) (by decide)
                        · refine ges_cons ?_ ?_
                          · exact ge_name sc_l_needed.nd (by rfl) (by first | exact Or.inl rfl | exact Or.inr rfl) (by decide)
                          · exact ges_nil
                    · refine pd_ifx ?_ ?_ ?_
                      · refine pt_notN ?_
                        · refine pd_pk ?_
                          · exact pv 6
                      · refine pdx2n finD ix_seq sIxD ?_ ?_ (fun _ _ => rfl)
                        · exact pv 2
                        · refine pd_pk ?_
                          · exact pv 6
                      · refine pd_tupE finD ?_
                        · refine il_c ?_ ?_
                          · exact pd_non
                          · refine il_c ?_ ?_
                            · exact pd_non
                            · exact il_n
      · refine sd_one ?_
        · refine sd_ret ?_
          · refine pd_sortSet3 finW (by rfl) (by rfl) Y.z_sorted (by rfl) Y.z_set ?_
            · refine pd_pk ?_
              · exact pv 3
theorem sc_size : FnScope ["token"] ["token"] (defScope s_size) := ⟨rfl, rfl, rfl, by decide +kernel, rfl, by decide +kernel, by decide +kernel⟩
theorem ok_size (Y : Facts P K mg T A k) : FnG P w K mg base 1 A.a_size A.d_size ["token"] (spF T 1 F_size) :=
  fn_mk2 (k := 0) Y.f_size sc_size rfl rfl fun cdv A0 outer s H E hgd hr tk hp => by
    refine sd_cons ?_ ?_
    · refine sd_if ?_ ?_ ?_
      · refine pt_c2 (op_eqG hr.units) sEq ?_ ?_ (by rfl)
        · refine pdx2n finD ix_seq sIxD ?_ ?_ (fun _ _ => rfl)
          · exact pv 0
          · refine pd_v ?_
            · exact pd_int
        · refine pd_v ?_
          · exact pd_str q_text
      · refine sd_one ?_
        · refine sd_ret ?_
          · refine pd_b1 finW call_len sLen (by rfl) Y.z_len bt_len ?_
            · refine pd_v ?_
              · refine pdx2n finD ix_seq sIxD ?_ ?_ (fun _ _ => rfl)
                · exact pv 0
                · refine pd_v ?_
                  · exact pd_int
      · exact sd_nil
    · refine sd_cons ?_ ?_
      · refine sd_if ?_ ?_ ?_
        · refine pt_c2 (op_eqG hr.units) sEq ?_ ?_ (by rfl)
          · refine pdx2n finD ix_seq sIxD ?_ ?_ (fun _ _ => rfl)
            · exact pv 0
            · refine pd_v ?_
              · exact pd_int
          · refine pd_v ?_
            · exact pd_str q_any
        · refine sd_one ?_
          · refine sd_ret ?_
            · refine pd_lf ?_
              · exact pd_int
        · exact sd_nil
      · refine sd_one ?_
        · refine sd_ret ?_
          · refine pd_ifx ?_ ?_ ?_
            · refine pt_c2 (op_eqG hr.units) sEq ?_ ?_ (by rfl)
              · refine pdx2n finD ix_seq sIxD ?_ ?_ (fun _ _ => rfl)
                · exact pv 0
                · refine pd_v ?_
                  · exact pd_int
              · refine pd_v ?_
                · exact pd_str q_flush
            · refine pd_lf ?_
              · exact pd_int
            · refine pdx2n finW ix_seq sIxD ?_ ?_ (fun _ _ => rfl)
              · exact pv 0
              · refine pd_v ?_
                · exact pd_int
theorem sc_sign_sources : FnScope ["blocks", "found", "at", "block", "token", "k"] ["blocks"] (defScope s_sign_sources) := ⟨rfl, rfl, rfl, by decide +kernel, rfl, by decide +kernel, by decide +kernel⟩
theorem ok_sign_sources (Y : Facts P K mg T A k) : FnG P w K mg base 2 A.a_sign_sources A.d_sign_sources ["blocks"] (spF T 1 F_sign_sources) :=
  fn_mk2 (k := 1) Y.f_sign_sources sc_sign_sources rfl rfl fun cdv A0 outer s H E hgd hr tk hp => by
    refine sd_cons ?_ ?_
    · refine sd_set sc_sign_sources.nd (by rfl) (by first | exact Or.inl rfl | exact Or.inr rfl) (by decide) ?_
      · refine pd_lstE finW ?_
        · exact il_n
    · refine sd_cons ?_ ?_
      · refine sd_forE hp (by rfl) ?_ ?_ ?_
        · refine pi_e (by rfl) Y.z_enumerate ?_
          · refine pd_nm ?_
            · exact pv 0
        · refine ge_tup (by rfl) ?_ (by rfl)
          · refine ges_cons ?_ ?_
            · exact ge_name sc_sign_sources.nd (by rfl) (by first | exact Or.inl rfl | exact Or.inr rfl) (by decide)
            · refine ges_cons ?_ ?_
              · exact ge_name sc_sign_sources.nd (by rfl) (by first | exact Or.inl rfl | exact Or.inr rfl) (by decide)
              · exact ges_nil
        · refine sd_one ?_
          · refine sd_forE hp (by rfl) ?_ ?_ ?_
            · refine pi_l ?_
              · refine pd_nm ?_
                · exact pv 3
            · exact ge_name sc_sign_sources.nd (by rfl) (by first | exact Or.inl rfl | exact Or.inr rfl) (by decide)
            · refine sd_one ?_
              · refine sd_forE hp (by rfl) ?_ ?_ ?_
                · refine pi_r1 (by rfl) Y.z_range ?_
                  · refine pd_fz ?_
                    · refine pd_callE (ok_size Y) hgd (hr.mono (by decide)) tk (by rfl) Y.m_size Y.f_size.kp Y.b_size ?_ (by rfl)
                      · refine ar_v ?_ ?_
                        · exact pv 4
                        · exact ar_n
                · exact ge_name sc_sign_sources.nd (by rfl) (by first | exact Or.inl rfl | exact Or.inr rfl) (by decide)
                · refine sd_one ?_
                  · refine sd_drop (κ := KD) ?_
                    · refine pd_app ?_ ?_
                      · exact pv 1
                      · refine pd_tupE finD ?_
                        · refine il_c ?_ ?_
                          · refine pd_nm ?_
                            · exact pv 2
                          · refine il_c ?_ ?_
                            · refine pd_ifx ?_ ?_ ?_
                              · refine pt_c2 (op_eqG hr.units) sEq ?_ ?_ (by rfl)
                                · refine pdx2n finD ix_seq sIxD ?_ ?_ (fun _ _ => rfl)
                                  · exact pv 4
                                  · refine pd_v ?_
                                    · exact pd_int
                                · refine pd_v ?_
                                  · exact pd_str q_copy
                              · refine pd2 finD op_sub sSub ?_ ?_
                                · refine pd_b1 finD call_len sLen (by rfl) Y.z_len bt_len ?_
                                  · refine pd_pk ?_
                                    · exact pv 1
                                · refine pd_v ?_
                                  · refine pdx2n finD ix_seq sIxD ?_ ?_ (fun _ _ => rfl)
                                    · exact pv 4
                                    · refine pd_v ?_
                                      · exact pd_int
                              · exact pd_non
                            · exact il_n
      · refine sd_one ?_
        · refine sd_ret ?_
          · refine pd_mv ?_
            · exact pv 1
theorem sc_blocks_behind : FnScope ["sources", "at", "found", "block"] ["sources", "at"] (defScope s_blocks_behind) := ⟨rfl, rfl, rfl, by decide +kernel, rfl, by decide +kernel, by decide +kernel⟩
theorem ok_blocks_behind (Y : Facts P K mg T A k) : FnG P w K mg base 1 A.a_blocks_behind A.d_blocks_behind ["sources", "at"] (spF T 2 F_blocks_behind) :=
  fn_mk2 (k := 0) Y.f_blocks_behind sc_blocks_behind rfl rfl fun cdv A0 outer s H E hgd hr tk hp => by
    refine sd_cons ?_ ?_
    · refine sd_set sc_blocks_behind.nd (by rfl) (by first | exact Or.inl rfl | exact Or.inr rfl) (by decide) ?_
      · refine pd_lstE finW ?_
        · exact il_n
    · refine sd_cons ?_ ?_
      · refine sd_while (fun _ => FUEL) hp ?_ ?_
        · refine pt_notN ?_
          · refine pd_pk ?_
            · exact pv 1
        · refine sd_cons ?_ ?_
          · refine sd_asgTE ?_ ?_
            · refine ge_tup (by rfl) ?_ (by rfl)
              · refine ges_cons ?_ ?_
                · exact ge_name sc_blocks_behind.nd (by rfl) (by first | exact Or.inl rfl | exact Or.inr rfl) (by decide)
                · refine ges_cons ?_ ?_
                  · exact ge_name sc_blocks_behind.nd (by rfl) (by first | exact Or.inl rfl | exact Or.inr rfl) (by decide)
                  · exact ges_nil
            · refine pdx2n finD ix_seq sIxD ?_ ?_ (fun _ _ => rfl)
              · exact pv 0
              · refine pd_pk ?_
                · exact pv 1
          · refine sd_one ?_
            · refine sd_drop (κ := KD) ?_
              · refine pd_app ?_ ?_
                · exact pv 2
                · refine pd_nm ?_
                  · exact pv 3
      · refine sd_one ?_
        · refine sd_ret ?_
          · refine pd_mv ?_
            · exact pv 2
theorem sc_needed : FnScope ["signs", "width", "blocks", "index", "sources", "own", "at", "block", "back"] ["signs", "width", "blocks", "index"] (defScope s_needed) := ⟨rfl, rfl, rfl, by decide +kernel, rfl, by decide +kernel, by decide +kernel⟩
theorem ok_needed (Y : Facts P K mg T A k) : FnG P w K mg base 3 A.a_needed A.d_needed ["signs", "width", "blocks", "index"] (spF T 4 F_needed) :=
  fn_mk2C (k := 2) Y.f_needed sc_needed rfl rfl fun cdv hcd A0 outer s H E hgd hr tk hp => by
    refine sd_cons ?_ ?_
    · refine sd_set sc_needed.nd (by rfl) (by first | exact Or.inl rfl | exact Or.inr rfl) (by decide) ?_
      · refine pd_callE (ok_sign_sources Y) hgd (hr.mono (by decide)) tk (by rfl) Y.m_sign_sources Y.f_sign_sources.kp Y.b_sign_sources ?_ (by rfl)
        · refine ar_v ?_ ?_
          · exact pv 2
          · exact ar_n
    · refine sd_cons ?_ ?_
      · refine sd_setLc (own := [("at", 6), ("block", 7), ("back", 8)]) (g := (gTup K 2 (gCons (gName 6) (gCons (gTup K 2 (gCons (gName 7) (gCons (gName 8) gNil))) gNil)))) (by rfl) sc_needed.nd (by rfl) (by decide) (by rfl) (sw_true (by rfl) (by rfl) (by rfl) (by decide +kernel)) ?_ (blkOk_by (own := [("at", 6), ("block", 7), ("back", 8)]) (N := ["signs", "width", "blocks", "index", "sources", "own", "at", "block", "back"]) (sc := defScope s_needed) (by decide +kernel)) ?_ ?_ ?_
        · refine pi_e (by rfl) Y.z_enumerate ?_
          · refine pd_nm ?_
            · exact pv 4
        · intro _ _ _ _ _
          refine gt_tup (by rfl) ?_ (by rfl)
          · refine gts_cons ?_ ?_
            · exact gt_name sc_needed.nd (by rfl) (by first | exact Or.inl rfl | exact Or.inr rfl) (by decide)
            · refine gts_cons ?_ ?_
              · refine gt_tup (by rfl) ?_ (by rfl)
                · refine gts_cons ?_ ?_
                  · exact gt_name sc_needed.nd (by rfl) (by first | exact Or.inl rfl | exact Or.inr rfl) (by decide)
                  · refine gts_cons ?_ ?_
                    · exact gt_name sc_needed.nd (by rfl) (by first | exact Or.inl rfl | exact Or.inr rfl) (by decide)
                    · exact gts_nil
              · exact gts_nil
        · intro _ _ _ _ _
          refine pts_one ?_
          · refine pt_c2n (op_eqG hr.units) sEq ?_ ?_ (by rfl)
            · exact pv 7
            · refine pd_pk ?_
              · exact pv 3
        · intro _ _ _ _ _
          refine pd_nm ?_
          · exact pv 6
      · refine sd_one ?_
        · refine sd_ret ?_
          · refine pd_sortOr (own := [("at", 6), ("block", 7)]) (g := (gName 6)) (vs1 := [7]) (g1 := (gName 7)) (by rfl) sc_needed.nd (by rfl) Y.z_sorted (kds_of_code hcd) ?_ ?_ (blkOk_by (own := [("at", 6), ("block", 7)]) (N := ["signs", "width", "blocks", "index", "sources", "own", "at", "block", "back"]) (sc := defScope s_needed) (by decide +kernel)) (by decide) ?_ ?_ ?_ ?_ ?_ ?_
            · refine pd_nm ?_
              · exact pv 3
            · refine pi_l ?_
              · refine pd_nm ?_
                · exact pv 5
            · intro _ _ _ _ _
              exact gt_name sc_needed.nd (by rfl) (by first | exact Or.inl rfl | exact Or.inr rfl) (by decide)
            · intro _ _ _ _ _
              exact pts_yes
            · intro _ _ _ _ _
              refine pi_l ?_
              · refine pd_fz ?_
                · refine pd_callE (ok_blocks_behind Y) hgd (hr.mono (by decide)) L2.takes0 (by rfl) Y.m_blocks_behind Y.f_blocks_behind.kp Y.b_blocks_behind ?_ (by rfl)
                  · refine ar_v ?_ ?_
                    · exact pv 4
                    · refine ar_v ?_ ?_
                      · exact pv 6
                      · exact ar_n
            · intro _ _ _ _ _
              exact gt_name sc_needed.nd (by rfl) (by first | exact Or.inl rfl | exact Or.inr rfl) (by decide)
            · intro _ _ _ _ _
              exact pts_yes
            · intro _ _ _ _ _
              refine pd_nm ?_
              · exact pv 7
theorem sc_l_alike : FnScope ["_law_found", "_law_due"] ["_law_found", "_law_due"] (defScope s_l_alike) := ⟨rfl, rfl, rfl, by decide +kernel, rfl, by decide +kernel, by decide +kernel⟩
theorem ok_l_alike (Y : Facts P K mg T A k) : FnG P w K mg base 1 A.a_l_alike A.d_l_alike ["_law_found", "_law_due"] (spF T 2 F_l_alike) :=
  fn_mk2 (k := 0) Y.f_l_alike sc_l_alike rfl rfl fun cdv A0 outer s H E hgd hr tk hp => by
    refine sd_one ?_
    · refine sd_ret ?_
      · refine pd_lf ?_
        · refine pd_and ?_ ?_
          · refine pdc2n finD (op_eqG hr.units) sEq ?_ ?_ (by rfl)
            · exact pv 0
            · refine pd_pk ?_
              · exact pv 1
          · refine pd_one ?_
            · refine pdc2 finD (op_eqG hr.units) sEq ?_ ?_ (by rfl)
              · refine pd_b1 finD (call_repr hgd hr.units) sRepr (by rfl) Y.z_repr bt_repr ?_
                · refine pd_pk ?_
                  · exact pv 0
              · refine pd_v ?_
                · refine pd_b1 finD (call_repr hgd hr.units) sRepr (by rfl) Y.z_repr bt_repr ?_
                  · refine pd_pk ?_
                    · exact pv 1
theorem sc_Reader_lost : FnScope ["self", "many"] ["self", "many"] (defScope s_Reader_lost) := ⟨rfl, rfl, rfl, by decide +kernel, rfl, by decide +kernel, by decide +kernel⟩
theorem ok_Reader_lost (Y : Facts P K mg T A k) : FnG P w K mg base 2 A.a_Reader_lost A.d_Reader_lost ["self", "many"] (spF T 2 F_Reader_lost) :=
  fn_mk2 (k := 1) Y.f_Reader_lost sc_Reader_lost rfl rfl fun cdv A0 outer s H E hgd hr tk hp => by
    refine sd_one ?_
    · refine sd_ret ?_
      · refine pd_methE ?_ Y.cl0 Y.t_Reader_note (ok_Reader_note Y) hgd (hr.mono (by decide)) tk Y.b_Reader_note ?_ (by rfl)
        · exact pv 0
        · refine ar_d ?_ ?_
          · refine pd2 finD op_mulD sMul ?_ ?_
            · exact pd_gs (by rfl) Y.c_MARK q_u63
            · refine pd_pk ?_
              · exact pv 1
          · exact ar_n
theorem sc_spoilt : FnScope ["signs", "width", "blocks", "lost", "reader", "found", "at", "block", "token"] ["signs", "width", "blocks", "lost"] (defScope s_spoilt) := ⟨rfl, rfl, rfl, by decide +kernel, rfl, by decide +kernel, by decide +kernel⟩
theorem ok_spoilt (Y : Facts P K mg T A k) : FnG P w K mg base 9 A.a_spoilt A.d_spoilt ["signs", "width", "blocks", "lost"] (spF T 4 F_spoilt) :=
  fn_mk2 (k := 8) Y.f_spoilt sc_spoilt rfl rfl fun cdv A0 outer s H E hgd hr tk hp => by
    refine sd_cons ?_ ?_
    · refine sd_set sc_spoilt.nd (by rfl) (by first | exact Or.inl rfl | exact Or.inr rfl) (by decide) ?_
      · refine pd_makeE Y.mk0 (ok_Reader_init Y) hgd (hr.mono (by decide)) tk (by rfl) Y.g0 Y.b_Reader_init ?_ (by rfl)
        · refine ar_v ?_ ?_
          · exact pv 0
          · refine ar_v ?_ ?_
            · exact pv 1
            · exact ar_n
    · refine sd_cons ?_ ?_
      · refine sd_set sc_spoilt.nd (by rfl) (by first | exact Or.inl rfl | exact Or.inr rfl) (by decide) ?_
        · refine pd_lstE finW ?_
          · exact il_n
      · refine sd_cons ?_ ?_
        · refine sd_forEn hp (by rfl) (by rfl) Y.z_enumerate ?_ (by decide) ?_ ?_
          · exact pv 2
          · refine ge_tup (by rfl) ?_ (by rfl)
            · refine ges_cons ?_ ?_
              · exact ge_name sc_spoilt.nd (by rfl) (by first | exact Or.inl rfl | exact Or.inr rfl) (by decide)
              · refine ges_cons ?_ ?_
                · exact ge_name sc_spoilt.nd (by rfl) (by first | exact Or.inl rfl | exact Or.inr rfl) (by decide)
                · exact ges_nil
          · refine sd_one ?_
            · refine sd_if ?_ ?_ ?_
              · refine pt_c2n op_inG sIn ?_ ?_ (by rfl)
                · exact pv 6
                · refine pd_pk ?_
                  · exact pv 3
              · refine sd_one ?_
                · refine sd_drop (κ := KD) ?_
                  · refine pd_app ?_ ?_
                    · exact pv 5
                    · refine pd_fz ?_
                      · refine pd_methE ?_ Y.cl0 Y.t_Reader_lost (ok_Reader_lost Y) hgd (hr.mono (by decide)) tk Y.b_Reader_lost ?_ (by rfl)
                        · exact pv 4
                        · refine ar_d ?_ ?_
                          · refine pd_b1 finD (cr_sum (by rfl)) sSum (by rfl) Y.z_sum bt_sum ?_
                            · refine pd_v ?_
                              · refine pd_fz ?_
                                · refine pd_lc (own := [("token", 8)]) (g := (gName 8)) (by rfl) sc_spoilt.nd ?_ (blkOk_by (own := [("token", 8)]) (N := ["signs", "width", "blocks", "lost", "reader", "found", "at", "block", "token"]) (sc := defScope s_spoilt) (by decide +kernel)) ?_ ?_ ?_
                                  · refine pi_l ?_
                                    · refine pd_nm ?_
                                      · exact pv 7
                                  · intro _ _ _ _ _
                                    exact gt_name sc_spoilt.nd (by rfl) (by first | exact Or.inl rfl | exact Or.inr rfl) (by decide)
                                  · intro _ _ _ _ _
                                    exact pts_yes
                                  · intro _ _ _ _ _
                                    refine pd_fz ?_
                                    · refine pd_callE (ok_size Y) hgd (hr.mono (by decide)) L2.takes0 (by rfl) Y.m_size Y.f_size.kp Y.b_size ?_ (by rfl)
                                      · refine ar_v ?_ ?_
                                        · exact pv 8
                                        · exact ar_n
                          · exact ar_n
              · refine sd_one ?_
                · refine sd_drop (κ := KD) ?_
                  · refine pd_app ?_ ?_
                    · exact pv 5
                    · refine pd_fz ?_
                      · refine pd_methE ?_ Y.cl0 Y.t_Reader_read_all (ok_Reader_read_all Y) hgd (hr.mono (by decide)) tk Y.b_Reader_read_all ?_ (by rfl)
                        · exact pv 4
                        · refine ar_v ?_ ?_
                          · exact pv 7
                          · exact ar_n
        · refine sd_one ?_
          · refine sd_ret ?_
            · refine pd_mv ?_
              · exact pv 5
theorem sc_law : FnScope ["_law_script", "_law_bag_here", "_law_turn", "_law_signs_here", "_law_width", "_law_blocks_here", "_law_handed", "_law_whole", "_law_index", "_law_due", "_law_again", "_law_found", "_law_others", "_law_at", "_law_block"] ["_law_script"] (defScope s_law) := ⟨rfl, rfl, rfl, by decide +kernel, rfl, by decide +kernel, by decide +kernel⟩
theorem ok_law (Y : Facts P K mg T A k) : FnG P w K mg base 10 A.a_law A.d_law ["_law_script"] (spF T 1 F_law) :=
  fn_mk2 (k := 9) Y.f_law sc_law rfl rfl fun cdv A0 outer s H E hgd hr tk hp => by
    refine sd_cons ?_ ?_
    · refine sd_set sc_law.nd (by rfl) (by first | exact Or.inl rfl | exact Or.inr rfl) (by decide) ?_
      · refine pd_callE (ok_l_bag Y) hgd (hr.mono (by decide)) tk (by rfl) Y.m_l_bag Y.f_l_bag.kp Y.b_l_bag ?_ (by rfl)
        · refine ar_v ?_ ?_
          · exact pv 0
          · exact ar_n
    · refine sd_cons ?_ ?_
      · refine sd_forE hp (by rfl) ?_ ?_ ?_
        · refine pi_r1 (by rfl) Y.z_range ?_
          · exact pd_int
        · exact ge_name sc_law.nd (by rfl) (by first | exact Or.inl rfl | exact Or.inr rfl) (by decide)
        · refine sd_cons ?_ ?_
          · refine sd_par (by rfl) sc_law.nd (by rfl) (by rfl) (by decide) (by decide) (by decide) (by rfl) (by rfl) ?_ ?_
            · refine pd_callE (ok_l_signs Y) hgd (hr.mono (by decide)) tk (by rfl) Y.m_l_signs Y.f_l_signs.kp Y.b_l_signs ?_ (by rfl)
              · refine ar_v ?_ ?_
                · exact pv 1
                · exact ar_n
            · refine pd2 finW op_addD sAdd ?_ ?_
              · exact pd_int
              · refine pd_v ?_
                · refine pd_fz ?_
                  · refine pd_callE (ok_l_take Y) hgd (hr.mono (by decide)) tk (by rfl) Y.m_l_take Y.f_l_take.kp Y.b_l_take ?_ (by rfl)
                    · refine ar_v ?_ ?_
                      · exact pv 1
                      · refine ar_d ?_ ?_
                        · refine pdx2 finD ix_seq sIxD ?_ ?_ (fun _ _ => rfl)
                          · refine pd_lstE finD ?_
                            · refine il_c ?_ ?_
                              · exact pd_int
                              · refine il_c ?_ ?_
                                · exact pd_int
                                · exact il_n
                          · refine pd_v ?_
                            · refine pd_fz ?_
                              · refine pd_callE (ok_l_take Y) hgd (hr.mono (by decide)) tk (by rfl) Y.m_l_take Y.f_l_take.kp Y.b_l_take ?_ (by rfl)
                                · refine ar_v ?_ ?_
                                  · exact pv 1
                                  · refine ar_d ?_ ?_
                                    · exact pd_int
                                    · exact ar_n
                        · exact ar_n
          · refine sd_cons ?_ ?_
            · refine sd_set sc_law.nd (by rfl) (by first | exact Or.inl rfl | exact Or.inr rfl) (by decide) ?_
              · refine pd_callE (ok_l_blocks Y) hgd (hr.mono (by decide)) tk (by rfl) Y.m_l_blocks Y.f_l_blocks.kp Y.b_l_blocks ?_ (by rfl)
                · refine ar_v ?_ ?_
                  · exact pv 1
                  · refine ar_v ?_ ?_
                    · exact pv 3
                    · refine ar_v ?_ ?_
                      · exact pv 4
                      · refine ar_d ?_ ?_
                        · refine pd2 finD op_addD sAdd ?_ ?_
                          · exact pd_int
                          · refine pd_v ?_
                            · refine pd_fz ?_
                              · refine pd_callE (ok_l_take Y) hgd (hr.mono (by decide)) tk (by rfl) Y.m_l_take Y.f_l_take.kp Y.b_l_take ?_ (by rfl)
                                · refine ar_v ?_ ?_
                                  · exact pv 1
                                  · refine ar_d ?_ ?_
                                    · exact pd_int
                                    · exact ar_n
                        · exact ar_n
            · refine sd_cons ?_ ?_
              · refine sd_if ?_ ?_ ?_
                · refine pt_c2n (op_eqG hr.units) sEq ?_ ?_ (by rfl)
                  · exact pv 2
                  · refine pd_v ?_
                    · exact pd_int
                · refine sd_one ?_
                  · refine sd_par (by rfl) sc_law.nd (by rfl) (by rfl) (by decide) (by decide) (by decide) (by rfl) (by rfl) ?_ ?_
                    · refine pd_lf ?_
                      · exact pd_int
                    · refine pd2 finW op_addD sAdd ?_ ?_
                      · refine pd_lstE finD ?_
                        · refine il_c ?_ ?_
                          · refine pd_lstE finD ?_
                            · refine il_c ?_ ?_
                              · refine pd_tupE finD ?_
                                · refine il_c ?_ ?_
                                  · exact pd_str q_text
                                  · refine il_c ?_ ?_
                                    · refine pd_sl finD Y.hT ?_ ?_ ?_
                                      · refine pd2n finD op_mulD sMul ?_ ?_
                                        · exact pv 3
                                        · refine pd_v ?_
                                          · exact pd_int
                                      · exact po_no
                                      · refine po_so ?_
                                        · exact pd_int
                                    · exact il_n
                              · exact il_n
                          · exact il_n
                      · refine pd_v ?_
                        · refine pd2 finD op_mulD sMul ?_ ?_
                          · refine pd_lstE finD ?_
                            · refine il_c ?_ ?_
                              · refine pd2 finD op_mulD sMul ?_ ?_
                                · refine pd_lstE finD ?_
                                  · refine il_c ?_ ?_
                                    · refine pd_tupE finD ?_
                                      · refine il_c ?_ ?_
                                        · exact pd_str q_copy
                                        · refine il_c ?_ ?_
                                          · exact pd_int
                                          · refine il_c ?_ ?_
                                            · exact pd_int
                                            · exact il_n
                                    · exact il_n
                                · refine pd_v ?_
                                  · exact pd_int
                              · exact il_n
                          · refine pd_v ?_
                            · exact pd_int
                · exact sd_nil
              · refine sd_cons ?_ ?_
                · refine sd_setLc (own := [("_law_block", 14)]) (g := (gName 14)) (by rfl) sc_law.nd (by rfl) (by decide) (by rfl) (sw_true (by rfl) (by rfl) (by rfl) (by decide +kernel)) ?_ (blkOk_by (own := [("_law_block", 14)]) (N := ["_law_script", "_law_bag_here", "_law_turn", "_law_signs_here", "_law_width", "_law_blocks_here", "_law_handed", "_law_whole", "_law_index", "_law_due", "_law_again", "_law_found", "_law_others", "_law_at", "_law_block"]) (sc := defScope s_law) (by decide +kernel)) ?_ ?_ ?_
                  · refine pi_l ?_
                    · refine pd_nm ?_
                      · exact pv 5
                  · intro _ _ _ _ _
                    exact gt_name sc_law.nd (by rfl) (by first | exact Or.inl rfl | exact Or.inr rfl) (by decide)
                  · intro _ _ _ _ _
                    exact pts_yes
                  · intro _ _ _ _ _
                    refine pd_t1 finD call_list_of sList (by rfl) Y.z_list bt_list ?_
                    · refine pd_pk ?_
                      · exact pv 14
                · refine sd_cons ?_ ?_
                  · refine sd_set sc_law.nd (by rfl) (by first | exact Or.inl rfl | exact Or.inr rfl) (by decide) ?_
                    · refine pd_callE (ok_block_texts Y) hgd (hr.mono (by decide)) tk (by rfl) Y.m_block_texts Y.f_block_texts.kp Y.b_block_texts ?_ (by rfl)
                      · refine ar_v ?_ ?_
                        · exact pv 3
                        · refine ar_v ?_ ?_
                          · exact pv 4
                          · refine ar_v ?_ ?_
                            · exact pv 6
                            · exact ar_n
                  · refine sd_one ?_
                    · refine sd_forE hp (by rfl) ?_ ?_ ?_
                      · refine pi_r1 (by rfl) Y.z_range ?_
                        · refine pd_b1 finD call_len sLen (by rfl) Y.z_len bt_len ?_
                          · refine pd_pk ?_
                            · exact pv 5
                      · exact ge_name sc_law.nd (by rfl) (by first | exact Or.inl rfl | exact Or.inr rfl) (by decide)
                      · refine sd_cons ?_ ?_
                        · refine sd_set sc_law.nd (by rfl) (by first | exact Or.inl rfl | exact Or.inr rfl) (by decide) ?_
                          · refine pd_callE (ok_l_needed Y) hgd (hr.mono (by decide)) tk (by rfl) Y.m_l_needed Y.f_l_needed.kp Y.b_l_needed ?_ (by rfl)
                            · refine ar_v ?_ ?_
                              · exact pv 5
                              · refine ar_v ?_ ?_
                                · exact pv 8
                                · exact ar_n
                        · refine sd_cons ?_ ?_
                          · refine sd_forE hp (by rfl) ?_ ?_ ?_
                            · refine pi_r1 (by rfl) Y.z_range ?_
                              · exact pd_int
                            · exact ge_name sc_law.nd (by rfl) (by first | exact Or.inl rfl | exact Or.inr rfl) (by decide)
                            · refine sd_cons ?_ ?_
                              · refine sd_set sc_law.nd (by rfl) (by first | exact Or.inl rfl | exact Or.inr rfl) (by decide) ?_
                                · refine pd_callE (ok_needed Y) hgd (hr.mono (by decide)) tk (by rfl) Y.m_needed Y.f_needed.kp Y.b_needed ?_ (by rfl)
                                  · refine ar_v ?_ ?_
                                    · exact pv 3
                                    · refine ar_v ?_ ?_
                                      · exact pv 4
                                      · refine ar_v ?_ ?_
                                        · exact pv 6
                                        · refine ar_v ?_ ?_
                                          · exact pv 8
                                          · exact ar_n
                              · refine sd_cons ?_ ?_
                                · refine sd_if ?_ ?_ ?_
                                  · refine PW.pt ?_
                                    · refine pw_or' ?_ ?_
                                      · refine pt_not' ?_
                                        · refine pt_e ?_
                                          · refine pd_v ?_
                                            · refine pd_fz ?_
                                              · refine pd_callE (ok_l_alike Y) hgd (hr.mono (by decide)) tk (by rfl) Y.m_l_alike Y.f_l_alike.kp Y.b_l_alike ?_ (by rfl)
                                                · refine ar_v ?_ ?_
                                                  · exact pv 11
                                                  · refine ar_v ?_ ?_
                                                    · exact pv 9
                                                    · exact ar_n
                                      · refine pw_or1 ?_
                                        · refine pt_c2n (op_neG hr.units) sNe ?_ ?_ (by rfl)
                                          · exact pv 6
                                          · refine pd_pk ?_
                                            · exact pv 5
                                  · refine sd_one ?_
                                    · refine sd_ret ?_
                                      · refine pd_lf ?_
                                        · exact pd_bl
                                  · exact sd_nil
                                · refine sd_one ?_
                                  · refine sd_drop (κ := KD) ?_
                                    · refine pd_app ?_ ?_
                                      · exact pv 11
                                      · exact pd_int
                          · refine sd_cons ?_ ?_
                            · refine sd_setLc (own := [("_law_at", 13)]) (g := (gName 13)) (by rfl) sc_law.nd (by rfl) (by decide) (by rfl) (sw_true (by rfl) (by rfl) (by rfl) (by decide +kernel)) ?_ (blkOk_by (own := [("_law_at", 13)]) (N := ["_law_script", "_law_bag_here", "_law_turn", "_law_signs_here", "_law_width", "_law_blocks_here", "_law_handed", "_law_whole", "_law_index", "_law_due", "_law_again", "_law_found", "_law_others", "_law_at", "_law_block"]) (sc := defScope s_law) (by decide +kernel)) ?_ ?_ ?_
                              · refine pi_r1 (by rfl) Y.z_range ?_
                                · refine pd_b1 finD call_len sLen (by rfl) Y.z_len bt_len ?_
                                  · refine pd_pk ?_
                                    · exact pv 5
                              · intro _ _ _ _ _
                                exact gt_name sc_law.nd (by rfl) (by first | exact Or.inl rfl | exact Or.inr rfl) (by decide)
                              · intro _ _ _ _ _
                                refine pts_one ?_
                                · refine pt_c2n op_niG sNi ?_ ?_ (by rfl)
                                  · exact pv 13
                                  · refine pd_pk ?_
                                    · exact pv 9
                              · intro _ _ _ _ _
                                refine pd_nm ?_
                                · exact pv 13
                            · refine sd_cons ?_ ?_
                              · refine sd_if ?_ ?_ ?_
                                · refine pt_c2 (op_neG hr.units) sNe ?_ ?_ (by rfl)
                                  · refine pdx2 finD ix_seq sIxD ?_ ?_ (fun _ _ => rfl)
                                    · refine pd_fz ?_
                                      · refine pd_callE (ok_spoilt Y) hgd (hr.mono (by decide)) tk (by rfl) Y.m_spoilt Y.f_spoilt.kp Y.b_spoilt ?_ (by rfl)
                                        · refine ar_v ?_ ?_
                                          · exact pv 3
                                          · refine ar_v ?_ ?_
                                            · exact pv 4
                                            · refine ar_v ?_ ?_
                                              · exact pv 6
                                              · refine ar_v ?_ ?_
                                                · exact pv 12
                                                · exact ar_n
                                    · refine pd_pk ?_
                                      · exact pv 8
                                  · refine pd_v ?_
                                    · refine pdx2n finD ix_seq sIxD ?_ ?_ (fun _ _ => rfl)
                                      · exact pv 7
                                      · refine pd_pk ?_
                                        · exact pv 8
                                · refine sd_one ?_
                                  · refine sd_ret ?_
                                    · refine pd_lf ?_
                                      · exact pd_bl
                                · exact sd_nil
                              · refine sd_one ?_
                                · refine sd_forE hp (by rfl) ?_ ?_ ?_
                                  · refine pi_l ?_
                                    · refine pd_nm ?_
                                      · exact pv 9
                                  · exact ge_name sc_law.nd (by rfl) (by first | exact Or.inl rfl | exact Or.inr rfl) (by decide)
                                  · refine sd_one ?_
                                    · refine sd_if ?_ ?_ ?_
                                      · refine PW.pt ?_
                                        · refine pw_and' ?_ ?_
                                          · refine pt_c2 (op_neG hr.units) sNe ?_ ?_ (by rfl)
                                            · refine pdx2n finD ix_seq sIxD ?_ ?_ (fun _ _ => rfl)
                                              · exact pv 7
                                              · refine pd_pk ?_
                                                · exact pv 8
                                            · refine pd_v ?_
                                              · exact pd_str q_e
                                          · refine pw_and1 ?_
                                            · refine pt_c2 op_niG sNi ?_ ?_ (by rfl)
                                              · exact pd_str q_u63
                                              · refine pd_v ?_
                                                · refine pdx2 finD ix_seq sIxD ?_ ?_ (fun _ _ => rfl)
                                                  · refine pd_fz ?_
                                                    · refine pd_callE (ok_spoilt Y) hgd (hr.mono (by decide)) tk (by rfl) Y.m_spoilt Y.f_spoilt.kp Y.b_spoilt ?_ (by rfl)
                                                      · refine ar_v ?_ ?_
                                                        · exact pv 3
                                                        · refine ar_v ?_ ?_
                                                          · exact pv 4
                                                          · refine ar_v ?_ ?_
                                                            · exact pv 6
                                                            · refine ar_d ?_ ?_
                                                              · refine pd_lstE finD ?_
                                                                · refine il_c ?_ ?_
                                                                  · refine pd_nm ?_
                                                                    · exact pv 13
                                                                  · exact il_n
                                                              · exact ar_n
                                                  · refine pd_pk ?_
                                                    · exact pv 8
                                      · refine sd_one ?_
                                        · refine sd_ret ?_
                                          · refine pd_lf ?_
                                            · exact pd_bl
                                      · exact sd_nil
      · refine sd_one ?_
        · refine sd_ret ?_
          · refine pd_lf ?_
            · exact pd_bl
end
end Wc.K26
namespace Wc.K26
open PySem L2
local macro_rules | `(tactic| wtm_at "s") => `(tactic| (first
  | with_reducible refine WStep.mpr ?_
  | dsimp only [putA, hidA, List.map_cons, List.map_nil, List.cons_append, List.nil_append, List.replicate_succ, List.replicate_zero, List.set_cons_zero, List.set_cons_succ, List.length_cons, List.length_nil, view_sh, view_ml, view_mo, id_eq]
  | with_reducible refine XStep.mpr (by omega) ?_
  | ((with_reducible refine exG ?_); (with_reducible apply Exists.intro); refine ⟨rfl, ?_⟩)
  | with_reducible refine ite_T (by decide) ?_
  | with_reducible refine ite_F (by decide) ?_
  | with_reducible refine YStep.mpr (by first | exact .inl ⟨by decide, by decide⟩ | exact .inr ⟨by decide, by decide⟩ | assumption | exact ⟨by assumption, by assumption⟩) ?_
  | with_reducible refine addt_ex (by omega) (by assumption) ?_
  | ((with_reducible refine anG ?_); refine And.intro ?_ ?_; focus exact Nat.le_of_ble_eq_true rfl)
  | ((with_reducible refine anG ?_); refine And.intro ?_ ?_; focus exact ⟨_, rfl⟩)
  | ((with_reducible refine exG ?_); (with_reducible apply Exists.intro); (with_reducible apply Exists.intro); refine ⟨rfl, rfl, Nat.le_of_ble_eq_true rfl, ?_⟩)
  | ((with_reducible refine exG ?_); (with_reducible apply Exists.intro); (with_reducible apply Exists.intro); refine ⟨rfl, by decide, ?_⟩)))
def TkEnd : M Fl := (seqM (ifM (tbM (m2 W.view gtD (m2n W.view ixD 0 (kc (.int 0))) (kc (.int 0)))) (seqM (asgM 4 (m2 id modD (m1 W.view intD (m2n W.view ixD 0 (kc (.int 0)))) (pk 1))) (seqM (setI 0 (kc (.int 0)) (m2 W.view fdivD (m1 W.view intD (m2n W.view ixD 0 (kc (.int 0)))) (pk 1))) (retM (mv 4)))) nxM) (seqM (asgM 5 (m2 id modD (m1 W.view intD (m2 W.view mulD (m2 W.view addD (m2n W.view ixD 0 (kc (.int 1))) (kc (.int 1))) (kc (.int 39373)))) (kc (.int 1000000007)))) (seqM (asgM 6 (m2 id modD (m1 W.view intD (m2 W.view mulD (m2 W.view modD (m1 W.view intD (m2n W.view mulD 5 (pk 5))) (kc (.int 998244353))) (kc (.int 30011)))) (kc (.int 998244353)))) (retM (m2 id modD (m1 W.view intD (m2n W.view fdivD 6 (kc (.int 7)))) (pk 1))))))
theorem take_eq : F_l_take = fnM 2 5 [2, 3, 4, 5, 6] (seqM (ifM (tbM (m2 W.view eqW (m2n W.view ixD 0 (kc (.int 0))) (kc (.int 0)))) (seqM (asgM 2 (lf (kc (.int 0)))) (seqM (ifM (tbM (m2 W.view ltD (m2n W.view ixD 0 (kc (.int 2))) (m1 W.view lenD (m2n W.view ixD 0 (kc (.int 3)))))) (asgM 2 (m2 id ixD (m2n W.view ixD 0 (kc (.int 3))) (m2n W.view ixD 0 (kc (.int 2))))) nxM) (seqM (augI 0 (kc (.int 2)) (kc (.int 1))) (seqM (ifM (tbM (m2n W.view geD 2 (kc (.int 1000000000000000000)))) (setI 0 (kc (.int 0)) (nm 2)) nxM) (seqM (asgM 3 (m2 id addD (m2 W.view addD (m2 W.view mulD (m2n W.view ixD 0 (kc (.int 1))) (kc (.int 48271))) (m2 W.view modD (m1 W.view intD (pk 2)) (kc (.int 2147483647)))) (m2 W.view mulD (kc (.int 7919)) (m2n W.view ixD 0 (kc (.int 2)))))) (setI 0 (kc (.int 1)) (m2 W.view modD (m1 W.view intD (pk 3)) (kc (.int 2147483647))))))))) nxM) TkEnd) := rfl
theorem take_end {g : Bag} {m : Int} {Q : Fl → Env' → Prop} {c d : Option W} (hg : g.Ok) (hm : 0 < m) (hm2 : m < 1073741824)
    (h : ∀ r (g' : Bag) c d e f i, 0 ≤ r → r < m → g'.Ok → Q (.ret (.sh (.int r))) [some g'.w, some (.sh (.int m)), c, d, e, f, i]) : Wp (TkEnd [some g.w, some (.sh (.int m)), c, d, none, none, none]) Q := by
  unfold TkEnd Bag.w
  repeat wtm_at "s"
  refine ite_dec (fun h1 => ?_) (fun h1 => ?_)
  · repeat wtm_at "s"
    exact h _ ⟨g.a / m, g.b, g.c, g.cs⟩ _ _ _ _ _ (Int.emod_nonneg _ (by omega)) (Int.emod_lt_of_pos _ hm) ⟨Int.ediv_nonneg hg.a0 (by omega), hg.b0, hg.b1, hg.c0, hg.cs, hg.len⟩
  · repeat wtm_at "s"
    refine ⟨_, mulD_l (Int.lt_of_lt_of_le (by decide) (Int.emod_nonneg _ (by decide))) (Int.lt_trans (Int.emod_lt_of_pos _ (by decide)) (by decide)), ?_⟩
    repeat wtm_at "s"
    exact h _ g _ _ _ _ _ (Int.emod_nonneg _ (by omega)) (Int.emod_lt_of_pos _ hm) hg
theorem take_wp {g : Bag} {m : Int} {Q : W → Env' → Prop} (hg : g.Ok) (hm : 0 < m) (hm2 : m < 1073741824)
    (h : ∀ r g', 0 ≤ r → r < m → Bag.Ok g' → Q (.sh (.int r)) [some g'.w, some (.sh (.int m))]) : Wp (F_l_take [some g.w, some (.sh (.int m))]) Q := by
  rw [take_eq]
  refine w_fn.mpr ⟨rfl, ?_⟩
  have fin : ∀ {g1 : Bag} {c d : Option W}, g1.Ok → Wp (TkEnd [some g1.w, some (.sh (.int m)), c, d, none, none, none]) fun fl e' => match fl with
      | .ret w => Q w (finE [2, 3, 4, 5, 6] 2 [some g.w, some (.sh (.int m))] e')
      | .nx => Q (.sh .non) (finE [2, 3, 4, 5, 6] 2 [some g.w, some (.sh (.int m))] e')
      | _ => False := fun h1 => take_end h1 hm hm2 fun r g' c d e f i h1 h2 h3 => h r g' h1 h2 h3
  unfold Bag.w at fin ⊢
  repeat wtm_at "s"
  refine ite_dec (fun h0 => ?_) (fun h0 => ?_)
  · have fx : ∀ x : Int, 0 ≤ x → Bag.Ok ⟨if 1000000000000000000 ≤ x then x else g.a, (g.b * 48271 + x % 2147483647 + 7919 * (g.c + 1)) % 2147483647, g.c + 1, g.cs⟩ := fun x hx =>
      ⟨by show 0 ≤ ite _ _ _; split; exact hx; exact hg.a0, Int.emod_nonneg _ (by decide), Int.emod_lt_of_pos _ (by decide), by have := hg.c0; show 0 ≤ g.c + 1; omega, hg.cs, hg.len⟩
    repeat wtm_at "s"
    rw [List.length_map]
    refine ite_dec (fun h1 => ?_) (fun h1 => ?_)
    · obtain ⟨x, x0, ex⟩ := at_cs hg h1
      repeat wtm_at "s"
      refine ⟨_, ex, ?_⟩
      repeat wtm_at "s"
      have := fx x x0
      refine ite_dec (fun h2 => ?_) (fun h2 => ?_)
      · rw [if_pos h2] at this
        repeat wtm_at "s"
        exact fin this
      · rw [if_neg h2] at this
        repeat wtm_at "s"
        exact fin this
    · have := fx 0 (by decide)
      rw [if_neg (by decide)] at this
      repeat wtm_at "s"
      exact fin this
  · repeat wtm_at "s"
    exact fin hg
theorem take_n {g : Bag} {m : Nat} {Q : W → Env' → Prop} (hg : g.Ok) (hm : 0 < m) (hm2 : m < 1073741824)
    (h : ∀ (r : Nat) (g' : Bag), r < m → Bag.Ok g' → Q (.sh (.int r)) [some g'.w, some (.sh (.int m))]) : Wp (F_l_take [some g.w, some (.sh (.int m))]) Q :=
  take_wp hg (by omega) (by omega) fun r g' h0 h1 hg' => by
    obtain ⟨n, rfl⟩ := Int.eq_ofNat_of_zero_le h0
    exact h n g' (by omega) hg'
theorem signs_wp {g : Bag} {Q : W → Env' → Prop} (hg : g.Ok) (h : ∀ s g', s ∈ SIGNS → Bag.Ok g' → Q (.sh (.str s)) [some g'.w]) : Wp (F_l_signs [some g.w]) Q := by
  unfold F_l_signs
  with_reducible refine w_fn.mpr ?_
  refine ⟨rfl, ?_⟩
  repeat wtm_at "s"
  refine take_wp hg (by decide) (by decide) fun r g' h0 h1 hg' => ?_
  repeat wtm_at "s"
  obtain ⟨d, hd, e⟩ := ix_in (xs := SIGNS.map .str) h0 h1
  obtain ⟨s, hs, rfl⟩ := List.mem_map.mp hd
  exact ⟨_, e, h s g' hs hg'⟩
theorem word_wp {g : Bag} {sg : List Nat} {n : Nat} {Q : W → Env' → Prop} (hg : g.Ok) (hs : 0 < sg.length) (hs2 : sg.length ≤ 100) (hn : n ≤ 40)
    (h : ∀ s g', s.length = n → (∀ c ∈ s, c ∈ sg) → Bag.Ok g' → Q (.sh (.str s)) [some g'.w, some (.sh (.str sg)), some (.sh (.int n))]) : Wp (F_l_word [some g.w, some (.sh (.str sg)), some (.sh (.int n))]) Q := by
  unfold F_l_word
  with_reducible refine w_fn.mpr ?_
  refine ⟨rfl, ?_⟩
  repeat wtm_at "s"
  refine wp_lc (fun k acc e => ∃ (s : List Nat) (g' : Bag), acc = s.map (fun c => D.str [c]) ∧ s.length = k ∧ (∀ c ∈ s, c ∈ sg) ∧ Bag.Ok g' ∧ e = [some g'.w, some (.sh (.str sg)), some (.sh (.int n)), none]) ?_ ?_ ?_
  · exact ⟨[], g, rfl, rfl, by simp, hg, rfl⟩
  · rintro k d acc e hk ⟨s, g1, rfl, hl, hc, hg1, rfl⟩
    obtain ⟨hk, rfl⟩ := rng_get hk
    refine ⟨_, rfl, ?_⟩
    repeat wtm_at "s"
    refine take_wp hg1 (by omega) (by omega) fun r g2 h0 h1 hg2 => ?_
    obtain ⟨c, hc1, ec⟩ := ix_st h0 h1
    repeat wtm_at "s"
    refine ⟨_, ec, s ++ [c], g2, by simp [view_sh], by simp [hl], ?_, hg2, rfl⟩
    intro x hx
    rcases List.mem_append.mp hx with q | q
    · exact hc x q
    · rw [List.mem_singleton.mp q]; exact hc1
  · rintro xs e ⟨s, g1, rfl, hl, hc, hg1, rfl⟩
    rw [rng_len'] at hl
    refine ⟨_, join_chars (by omega), ?_⟩
    exact h s g1 (by omega) hc hg1
theorem lsize_wp {t : Tkn} {Q : W → Env' → Prop} (h : Q (.sh (.int t.sz)) [some (.sh t.d)]) : Wp (F_l_size [some (.sh t.d)]) Q := by
  unfold F_l_size
  with_reducible refine w_fn.mpr ?_
  refine ⟨rfl, ?_⟩
  cases t <;> unfold Tkn.d at h ⊢ <;> (repeat wtm_at "s") <;> exact h
theorem size_wp {t : Tkn} {Q : W → Env' → Prop} (h : Q (.sh (.int t.sz)) [some (.sh t.d)]) : Wp (F_size [some (.sh t.d)]) Q := by
  unfold F_size
  with_reducible refine w_fn.mpr ?_
  refine ⟨rfl, ?_⟩
  cases t <;> unfold Tkn.d at h ⊢ <;> (repeat wtm_at "s") <;> exact h
theorem rises_wp {s : List Nat} {Q : W → Env' → Prop} (h : Q (.sh (.bl (risesB s))) [some (.sh (.str s))]) : Wp (F_rises [some (.sh (.str s))]) Q := by
  unfold F_rises
  with_reducible refine w_fn.mpr ?_
  refine ⟨rfl, ?_⟩
  repeat wtm_at "s"
  rw [cut_tail, zipS_eq]
  refine wp_lc_map (fun p => .bl (decide ([p.1] < [p.2]))) ?_ ?_
  · intro p _
    refine ⟨_, rfl, ?_⟩
    repeat wtm_at "s"
    exact ⟨rfl, rfl⟩
  · refine ⟨_, all_bl _ _, ?_⟩
    rw [risesB_zip]
    exact h
theorem is_signs_wp {s : List Nat} {Q : W → Env' → Prop} (hs : sgB s = true) (h : Q (.sh (.bl true)) [some (.sh (.str s))]) : Wp (F_is_signs [some (.sh (.str s))]) Q := by
  simp only [sgB, Bool.and_eq_true, decide_eq_true_eq] at hs
  obtain ⟨⟨⟨h1, h2⟩, h3⟩, h4⟩ := hs
  unfold F_is_signs
  with_reducible refine w_fn.mpr ?_
  refine ⟨rfl, ?_⟩
  repeat wtm_at "s"
  rw [show decide ((2 : Int) ≤ (s.length : Int)) = true by simp; omega]
  repeat wtm_at "s"
  rw [show decide ((s.length : Int) ≤ (6 : Int)) = true by simp; omega]
  repeat wtm_at "s"
  refine wp_lc_map (fun c => .bl (decide (c ∈ LETTERS))) ?_ ?_
  · intro c _
    refine ⟨_, rfl, ?_⟩
    repeat wtm_at "s"
    exact ⟨rfl, rfl⟩
  · refine ⟨_, all_bl _ _, ?_⟩
    rw [h3]
    repeat wtm_at "s"
    refine rises_wp ?_
    rw [h4]
    exact h
theorem is_text_wp {sg s : List Nat} {Q : W → Env' → Prop} (h : Q (.sh (.bl (s.all fun c => decide (c ∈ sg)))) [some (.sh (.str sg)), some (.sh (.str s))]) : Wp (F_is_text [some (.sh (.str sg)), some (.sh (.str s))]) Q := by
  unfold F_is_text
  with_reducible refine w_fn.mpr ?_
  refine ⟨rfl, ?_⟩
  repeat wtm_at "s"
  refine wp_lc_map (fun c => .bl (decide (c ∈ sg))) ?_ ?_
  · intro c _
    refine ⟨_, rfl, ?_⟩
    repeat wtm_at "s"
    exact ⟨rfl, rfl⟩
  · refine ⟨_, all_bl _ _, ?_⟩
    exact h
theorem is_choice_wp {sg s : List Nat} {Q : W → Env' → Prop} (hs : s ≠ []) (h1 : ∀ c ∈ s, c ∈ sg) (h2 : risesB s = true) (h : Q (.sh (.bl true)) [some (.sh (.str sg)), some (.sh (.str s))]) : Wp (F_is_choice [some (.sh (.str sg)), some (.sh (.str s))]) Q := by
  unfold F_is_choice
  with_reducible refine w_fn.mpr ?_
  refine ⟨rfl, ?_⟩
  repeat wtm_at "s"
  refine is_text_wp ?_
  rw [show (s.all fun c => decide (c ∈ sg)) = true by simpa using h1]
  repeat wtm_at "s"
  rw [show (!(s == ([] : List Nat))) = true by simpa using hs]
  repeat wtm_at "s"
  refine rises_wp ?_
  rw [h2]
  exact h
theorem is_integer_wp {i : Int} {Q : W → Env' → Prop} (h : Q (.sh (.bl true)) [some (.sh (.int i))]) : Wp (F_is_integer [some (.sh (.int i))]) Q := by
  unfold F_is_integer
  with_reducible refine w_fn.mpr ?_
  refine ⟨rfl, ?_⟩
  repeat wtm_at "s"
  exact h
theorem is_width_wp {i : Int} {Q : W → Env' → Prop} (h1 : 1 ≤ i) (h2 : i ≤ 12) (h : Q (.sh (.bl true)) [some (.sh (.int i))]) : Wp (F_is_width [some (.sh (.int i))]) Q := by
  unfold F_is_width
  with_reducible refine w_fn.mpr ?_
  refine ⟨rfl, ?_⟩
  repeat wtm_at "s"
  refine is_integer_wp ?_
  repeat wtm_at "s"
  rw [show decide (1 ≤ i) = true by simpa using h1]
  repeat wtm_at "s"
  rw [show decide (i ≤ 12) = true by simpa using h2]
  exact h
theorem is_run_wp {k : List Nat} {f m : Nat} {Q : W → Env' → Prop} (h1 : 1 ≤ f) (h2 : f ≤ 12) (h3 : 1 ≤ m) (h4 : m ≤ 40) (h : Q (.sh (.bl true)) [some (.sh (.tup [.str k, .int f, .int m]))]) : Wp (F_is_run [some (.sh (.tup [.str k, .int f, .int m]))]) Q := by
  unfold F_is_run
  with_reducible refine w_fn.mpr ?_
  refine ⟨rfl, ?_⟩
  repeat wtm_at "s"
  refine is_width_wp (i := (f : Int)) (by omega) (by omega) ?_
  repeat wtm_at "s"
  refine is_integer_wp ?_
  repeat wtm_at "s"
  rw [show decide ((1 : Int) ≤ (m : Int)) = true by simp; omega]
  repeat wtm_at "s"
  rw [show decide ((m : Int) ≤ (40 : Int)) = true by simp; omega]
  exact h
theorem is_token_wp {sg : List Nat} {t : Tkn} {Q : W → Env' → Prop} (hs : risesB sg = true) (ht : t.ok sg) (h : Q (.sh (.bl true)) [some (.sh (.str sg)), some (.sh t.d)]) : Wp (F_is_token [some (.sh (.str sg)), some (.sh t.d)]) Q := by
  unfold F_is_token
  with_reducible refine w_fn.mpr ?_
  refine ⟨rfl, ?_⟩
  cases t with
  | text s =>
    obtain ⟨h1, h2, h3⟩ := ht
    dsimp only [Tkn.d] at h ⊢
    repeat wtm_at "s"
    refine is_text_wp ?_
    rw [show (s.all fun c => decide (c ∈ sg)) = true by simpa using h3]
    repeat wtm_at "s"
    rw [show decide ((1 : Int) ≤ (s.length : Int)) = true by simp; omega]
    repeat wtm_at "s"
    rw [show decide ((s.length : Int) ≤ (40 : Int)) = true by simp; omega]
    exact h
  | any s =>
    obtain ⟨h1, h2⟩ := ht
    dsimp only [Tkn.d] at h ⊢
    repeat wtm_at "s"
    refine is_choice_wp h1 (fun c hc => h2.subset hc) ((risesB_iff s).mpr (((risesB_iff sg).mp hs).sublist h2)) ?_
    repeat wtm_at "s"
    exact h
  | copy f m =>
    obtain ⟨h1, h2, h3, h4⟩ := ht
    dsimp only [Tkn.d] at h ⊢
    repeat wtm_at "s"
    refine is_run_wp h1 h2 h3 h4 ?_
    repeat wtm_at "s"
    exact h
  | say f m =>
    obtain ⟨h1, h2, h3, h4⟩ := ht
    dsimp only [Tkn.d] at h ⊢
    repeat wtm_at "s"
    refine is_run_wp h1 h2 h3 h4 ?_
    repeat wtm_at "s"
    exact h
  | flush =>
    dsimp only [Tkn.d] at h ⊢
    repeat wtm_at "s"
    exact h
theorem joinL_flat : ∀ A : List (List Nat), TL.joinL [] A = A.flatten
  | [] => rfl
  | [c] => by simp [TL.joinL]
  | c :: d :: r => by
    have := joinL_flat (d :: r)
    simp only [TL.joinL, List.append_nil, List.flatten_cons] at this ⊢
    rw [this, List.nil_append]
theorem join_flat (A : List (List Nat)) (h : A.flatten.length ≤ 100000) : joinD [] (.lst (A.map .str)) = some (.sh (.str A.flatten)) := by
  unfold joinD
  simp only
  rw [asSs_map]
  rw [Option.bind_some, joinL_flat, if_pos]
  show (A.map List.length).sum + A.length * 0 ≤ 16777216
  rw [← List.length_flatten]
  omega
theorem cut_dropN {α : Type} (xs : List α) {n : Nat} (h : n ≤ xs.length) : cutD xs (some (n : Int)) none = xs.drop n := by
  unfold cutD
  have e1 : HT.sIx xs.length 0 (some (n : Int)) = n := by
    show (if (n : Int) < 0 then ((n : Int) + (xs.length : Int)).toNat else min (n : Int).toNat xs.length) = n
    rw [if_neg (by omega)]
    omega
  rw [e1]
  simp [HT.sIx, List.take_of_length_le]
theorem ix_str {s : List Nat} {i : Nat} (h : i < s.length) : ixD (.str s) (.int (i : Int)) = some (.sh (.str [s.getD i 0])) := by
  have e : ixN s.length (i : Int) = some i := by
    unfold ixN
    rw [if_pos (by omega)]
    simp [h]
  show ((ixN s.length (i : Int)).bind fun n => s[n]?).map (fun c => W.sh (.str [c])) = _
  rw [e, Option.bind_some, List.getElem?_eq_getElem h, List.getD_eq_getElem?_getD, List.getElem?_eq_getElem h]
  rfl
def rdW (sg : List Nat) (wd : Nat) (tx : List Nat) (n : Nat) : W := .mo 0 ["its_signs", "its_width", "its_text", "its_number"] [.str sg, .int wd, .str tx, .int n]
theorem reader_wp {sg : List Nat} {wd : Nat} {Q : W → Env' → Prop} (hs : sgB sg = true) (h1 : 1 ≤ wd) (h2 : wd ≤ 12) (h : Q (.sh .non) [some (rdW sg wd [] 0), some (.sh (.str sg)), some (.sh (.int wd))]) : Wp (F_Reader_init [some (.mo 0 [] []), some (.sh (.str sg)), some (.sh (.int wd))]) Q := by
  unfold F_Reader_init
  with_reducible refine w_fn.mpr ?_
  refine ⟨rfl, ?_⟩
  repeat wtm_at "s"
  refine is_signs_wp hs ?_
  repeat wtm_at "s"
  refine is_width_wp (by omega) (by omega) ?_
  repeat wtm_at "s"
  exact h
theorem iadds_ex {s t : List Nat} {Q : W → Prop} (h : s.length + t.length ≤ 100000) (q : Q (.sh (.str (s ++ t)))) : ∃ w, iaddD (.str s) (.str t) = some w ∧ Q w := ⟨_, if_pos (show s.length + t.length ≤ 16777216 by omega), q⟩
theorem note_wp {sg : List Nat} {wd : Nat} {tx : List Nat} {n : Nat} {t : List Nat} {Q : W → Env' → Prop} (hl : tx.length + t.length ≤ 10000) (h : Q (.sh (.str t)) [some (rdW sg wd (tx ++ t) (min wd (n + t.length))), some (.sh (.str t))]) : Wp (F_Reader_note [some (rdW sg wd tx n), some (.sh (.str t))]) Q := by
  unfold F_Reader_note
  with_reducible refine w_fn.mpr ?_
  refine ⟨rfl, ?_⟩
  unfold rdW
  repeat wtm_at "s"
  refine iadds_ex (by omega) ?_
  repeat wtm_at "s"
  have em : (if (n : Int) + (t.length : Int) < (wd : Int) then (n : Int) + (t.length : Int) else (wd : Int)) = ((min wd (n + t.length) : Nat) : Int) := by
    split <;> omega
  rw [em]
  exact h
theorem rkept_wp {sg : List Nat} {wd : Nat} {tx : List Nat} {n : Nat} {Q : W → Env' → Prop} (hl : tx.length ≤ 10000) (hn : n ≤ tx.length) (h : Q (.sh (.str (tx.drop (tx.length - n)))) [some (rdW sg wd tx n)]) : Wp (F_Reader_kept [some (rdW sg wd tx n)]) Q := by
  unfold F_Reader_kept
  with_reducible refine w_fn.mpr ?_
  refine ⟨rfl, ?_⟩
  unfold rdW
  repeat wtm_at "s"
  rw [show ((tx.length : Int) - (n : Int)) = ((tx.length - n : Nat) : Int) by omega, cut_dropN _ (by omega)]
  exact h
theorem copied_signs_wp {tx : List Nat} {f m : Nat} {Q : W → Env' → Prop} (hl : tx.length + m ≤ 10000) (h1 : 1 ≤ f) (hf : f ≤ tx.length) (h : Q (.sh (.str (cps tx f m))) [some (.sh (.str tx)), some (.sh (.int f)), some (.sh (.int m))]) : Wp (F_copied_signs [some (.sh (.str tx)), some (.sh (.int f)), some (.sh (.int m))]) Q := by
  unfold F_copied_signs
  with_reducible refine w_fn.mpr ?_
  refine ⟨rfl, ?_⟩
  repeat wtm_at "s"
  refine wp_for _ (fun k e => ∃ (x : Option W), e = [some (.sh (.str tx)), some (.sh (.int f)), some (.sh (.int m)), some (.sh (.str (cps tx f k))), x]) ?_ ?_ ?_
  · exact ⟨_, rfl⟩
  · rintro k d e hk ⟨x, rfl⟩
    obtain ⟨hk2, rfl⟩ := rng_get hk
    have lc := cps_len tx f k
    refine ⟨_, rfl, ?_⟩
    repeat wtm_at "s"
    rw [show ((tx.length : Int) + (k : Int) - (f : Int)) = ((tx.length + k - f : Nat) : Int) by omega]
    refine ⟨_, ix_str (by rw [List.length_append]; omega), ?_⟩
    repeat wtm_at "s"
    refine iadds_ex (by rw [lc]; simp; omega) ?_
    repeat wtm_at "s"
    exact ⟨_, rfl⟩
  · rintro e ⟨x, rfl⟩
    rw [rng_len']
    repeat wtm_at "s"
    exact h
theorem readable_wp {sg : List Nat} {wd n : Nat} {t : Tkn} {Q : W → Env' → Prop} (hs : risesB sg = true) (ht : t.ok sg) (hk : okT n t) (hn : n ≤ wd) (h : Q (.sh (.bl true)) [some (.sh (.str sg)), some (.sh (.int wd)), some (.sh t.d)]) : Wp (F_is_readable [some (.sh (.str sg)), some (.sh (.int wd)), some (.sh t.d)]) Q := by
  unfold F_is_readable
  with_reducible refine w_fn.mpr ?_
  refine ⟨rfl, ?_⟩
  repeat wtm_at "s"
  unfold F_is_plain
  with_reducible refine w_fn.mpr ?_
  refine ⟨rfl, ?_⟩
  repeat wtm_at "s"
  refine is_token_wp hs ht ?_
  cases t with
  | text s =>
    dsimp only [Tkn.d] at h ⊢
    repeat wtm_at "s"
    exact h
  | flush =>
    dsimp only [Tkn.d] at h ⊢
    repeat wtm_at "s"
    exact h
  | copy f m =>
    have hf : f ≤ n := hk
    dsimp only [Tkn.d] at h ⊢
    repeat wtm_at "s"
    rw [decide_eq_true (show (f : Int) ≤ (wd : Int) by omega)]
    repeat wtm_at "s"
    exact h
  | any s => exact absurd hk (by simp [okT])
  | say f m => exact absurd hk (by simp [okT])
theorem read_wp {sg : List Nat} {wd : Nat} {tx : List Nat} {n : Nat} {t : Tkn} {Q : W → Env' → Prop} (hs : risesB sg = true) (ht : t.ok sg) (hk : okT n t) (hn : n ≤ wd) (hn2 : n ≤ tx.length) (hl : tx.length + t.sz ≤ 10000)
    (h : Q (.sh (.str (wrT tx t))) [some (rdW sg wd (tx ++ wrT tx t) (kpt wd n t)), some (.sh t.d)]) : Wp (F_Reader_read [some (rdW sg wd tx n), some (.sh t.d)]) Q := by
  have lw := wrT_len hk tx
  unfold F_Reader_read
  with_reducible refine w_fn.mpr ?_
  refine ⟨rfl, ?_⟩
  unfold rdW
  repeat wtm_at "s"
  refine readable_wp hs ht hk hn ?_
  cases t with
  | text s =>
    dsimp only [Tkn.d, kpt, wrT] at h ⊢
    repeat wtm_at "s"
    refine note_wp (sg := sg) (n := n) hl ?_
    repeat wtm_at "s"
    exact h
  | flush =>
    dsimp only [Tkn.d, kpt, wrT] at h ⊢
    rw [List.append_nil] at h
    repeat wtm_at "s"
    exact h
  | copy f m =>
    have hf : f ≤ n := hk
    have h1 : 1 ≤ f := ht.1
    dsimp only [Tkn.d, kpt, wrT] at h ⊢
    repeat wtm_at "s"
    refine ite_F (by simp; omega) ?_
    repeat wtm_at "s"
    refine rkept_wp (sg := sg) (by omega) hn2 ?_
    repeat wtm_at "s"
    refine copied_signs_wp (by rw [List.length_drop]; have : m = (Tkn.copy f m).sz := rfl; omega) h1 (by rw [List.length_drop]; omega) ?_
    rw [cps_drop tx hn2 hf m]
    repeat wtm_at "s"
    refine note_wp (sg := sg) (n := n) (by rw [cps_len]; exact hl) ?_
    rw [cps_len]
    repeat wtm_at "s"
    exact h
  | any s => exact absurd hk (by simp [okT])
  | say f m => exact absurd hk (by simp [okT])
theorem rcopied_wp {sg : List Nat} {wd : Nat} {tx : List Nat} {n : Nat} {Q : W → Env' → Prop} (hs : sgB sg = true) (h1 : 1 ≤ wd) (h2 : wd ≤ 12) (h : Q (rdW sg wd tx n) [some (rdW sg wd tx n)]) : Wp (F_Reader_copied [some (rdW sg wd tx n)]) Q := by
  unfold F_Reader_copied
  with_reducible refine w_fn.mpr ?_
  refine ⟨rfl, ?_⟩
  unfold rdW
  repeat wtm_at "s"
  refine reader_wp hs h1 h2 ?_
  unfold rdW
  refine ⟨rfl, _, _, rfl, ?_⟩
  repeat wtm_at "s"
  exact h
theorem read_all_wp {w : W} {sg : List Nat} {wd : Nat} {tx : List Nat} {n : Nat} {b : List Tkn} {Q : W → Env' → Prop} (hv : w.view = .lst (b.map Tkn.d)) (hs : sgB sg = true) (h1 : 1 ≤ wd) (h2 : wd ≤ 12) (hok : ∀ t ∈ b, t.ok sg) (hb : sndB wd n b) (hn : n ≤ wd) (hn2 : n ≤ tx.length) (hl : tx.length + tot b ≤ 10000)
    (h : Q (.sh (.str (wrB tx b))) [some (rdW sg wd (tx ++ wrB tx b) (kpB wd n b)), some w]) : Wp (F_Reader_read_all [some (rdW sg wd tx n), some w]) Q := by
  have hr : risesB sg = true := by simp only [sgB, Bool.and_eq_true] at hs; exact hs.2
  unfold F_Reader_read_all
  with_reducible refine w_fn.mpr ?_
  refine ⟨rfl, ?_⟩
  unfold rdW
  repeat wtm_at "s"
  refine rcopied_wp (sg := sg) (tx := tx) (n := n) hs h1 h2 ?_
  repeat wtm_at "s"
  refine wp_lcN rfl (by rw [hv]; rfl) ?_
  refine wp_lc (fun k acc e => ∃ (A : List (List Nat)) (tx' : List Nat) (n' : Nat), acc = A.map D.str ∧ tx' = tx ++ A.flatten ∧ A.flatten ++ wrB tx' (b.drop k) = wrB tx b ∧ kpB wd n' (b.drop k) = kpB wd n b ∧ sndB wd n' (b.drop k) ∧ n' ≤ wd ∧ n' ≤ tx'.length ∧ tx'.length + tot (b.drop k) ≤ 10000 ∧ e = [some (rdW sg wd tx n), none, some (rdW sg wd tx' n'), none, none]) ?_ ?_ ?_
  · exact ⟨[], tx, n, rfl, by simp, rfl, rfl, hb, hn, hn2, hl, rfl⟩
  · rintro k d acc e hk ⟨A, tx', n', rfl, e1, e2, e3, e4, e5, e6, e7, rfl⟩
    obtain ⟨t, ht, rfl⟩ := map_get hk
    rw [drop_get ht] at e2 e3 e4 e7
    rw [tot_cons] at e7
    have lw := wrT_len e4.1 tx'
    refine ⟨_, rfl, ?_⟩
    repeat wtm_at "s"
    refine read_wp (sg := sg) (n := n') hr (hok t (List.mem_of_getElem? ht)) e4.1 e5 e6 (by omega) ?_
    repeat wtm_at "s"
    refine ⟨A ++ [wrT tx' t], tx' ++ wrT tx' t, kpt wd n' t, by rw [List.map_append]; rfl, ?_, ?_, e3, e4.2, kpt_le e5 t, ?_, ?_, rfl⟩
    · rw [e1]; simp
    · rw [← e2, wrB]; simp
    · rw [List.length_append, lw]; exact kpt_len e6 t
    · rw [List.length_append, lw]; omega
  · rintro xs e ⟨A, tx', n', rfl, e1, e2, e3, e4, e5, e6, e7, rfl⟩
    rw [List.length_map, List.drop_length] at e2 e3
    rw [wrB, List.append_nil] at e2
    rw [kpB] at e3
    subst e3
    rw [e2] at e1
    subst e1
    have lw := wrB_len hb tx
    refine ⟨_, join_flat A (by rw [e2, lw]; omega), ?_⟩
    rw [e2]
    repeat wtm_at "s"
    unfold rdW
    repeat wtm_at "s"
    exact h
theorem alike_wp {a b : W} {d : D} {Q : W → Env' → Prop} (ha : a.view = d) (hb : b.view = d) (he : eqD 60 d d = some true) (hr : (reprD d).isSome = true) (h : Q (.sh (.bl true)) [some a, some b]) : Wp (F_l_alike [some a, some b]) Q := by
  obtain ⟨s, hs⟩ := repr_sh hr
  unfold F_l_alike
  with_reducible refine w_fn.mpr ?_
  refine ⟨rfl, ?_⟩
  repeat wtm_at "s"
  refine ⟨.sh (.bl true), by rw [ha, hb, eqW, he]; rfl, ?_⟩
  repeat wtm_at "s"
  refine ⟨.sh (.str s), by rw [ha]; exact hs, ?_⟩
  repeat wtm_at "s"
  refine ⟨.sh (.str s), by rw [hb]; exact hs, ?_⟩
  repeat wtm_at "s"
  rw [show (s == s) = true by simp]
  exact h
theorem bag_wp {ns : List Int} {Q : W → Env' → Prop} (hl : ns.length ≤ 63) (h : ∀ g : Bag, g.Ok → Q g.w [some (.sh (.scr ns))]) : Wp (F_l_bag [some (.sh (.scr ns))]) Q := by
  unfold F_l_bag
  with_reducible refine w_fn.mpr ?_
  refine ⟨rfl, ?_⟩
  repeat wtm_at "s"
  refine ⟨.ml ((ns.map .int).take 63), ?_, ?_⟩
  · show (if ns.length ≤ 16777216 then some (W.ml (cutD (ns.map .int) none (some 63))) else none) = _
    rw [if_pos (by omega), show (some (63 : Int)) = some ((63 : Nat) : Int) from rfl, cut_take]
  rw [List.take_of_length_le (by simpa using hl)]
  repeat wtm_at "s"
  refine wp_lc_map (fun i : Int => .int (if i < 0 then -i else i)) ?_ ?_
  · intro i _
    refine ⟨_, rfl, ?_⟩
    repeat wtm_at "s"
    exact ⟨rfl, rfl⟩
  · repeat wtm_at "s"
    have := h ⟨0, 1234567891, 0, ns.map fun i : Int => if i < 0 then -i else i⟩ ⟨Int.le_refl 0, (show (0 : Int) ≤ 1234567891 by decide), (show (1234567891 : Int) < 2147483647 by decide), Int.le_refl 0, fun x hx => ?_, by simpa using hl⟩
    · rw [Bag.w, List.map_map] at this
      exact this
    · obtain ⟨i, _, rfl⟩ := List.mem_map.mp hx
      split <;> omega
theorem block_texts_wp {w : W} {sg : List Nat} {wd : Nat} {bs : List (List Tkn)} {Q : W → Env' → Prop} (hv : w.view = .lst (bD bs)) (hs : sgB sg = true) (h1 : 1 ≤ wd) (h2 : wd ≤ 12) (hok : ∀ b ∈ bs, ∀ t ∈ b, t.ok sg) (hb : sndBs wd 0 bs) (hl : tots bs ≤ 5000)
    (h : Q (.ml ((whl [] bs).map .str)) [some (.sh (.str sg)), some (.sh (.int wd)), some w]) : Wp (F_block_texts [some (.sh (.str sg)), some (.sh (.int wd)), some w]) Q := by
  unfold F_block_texts
  with_reducible refine w_fn.mpr ?_
  refine ⟨rfl, ?_⟩
  repeat wtm_at "s"
  refine reader_wp hs h1 h2 ?_
  refine ⟨rfl, _, _, rfl, ?_⟩
  repeat wtm_at "s"
  refine wp_lcN rfl (by rw [hv]; rfl) ?_
  refine wp_lc (fun k acc e => ∃ (A : List (List Nat)) (tx : List Nat) (n : Nat), acc = A.map D.str ∧ A ++ whl tx (bs.drop k) = whl [] bs ∧ sndBs wd n (bs.drop k) ∧ n ≤ wd ∧ n ≤ tx.length ∧ tx.length + tots (bs.drop k) ≤ 5000 ∧ e = [some (.sh (.str sg)), some (.sh (.int wd)), none, some (rdW sg wd tx n), none]) ?_ ?_ ?_
  · exact ⟨[], [], 0, rfl, rfl, hb, Nat.zero_le _, Nat.zero_le _, by simpa using hl, rfl⟩
  · rintro k d acc e hk ⟨A, tx, n, rfl, e2, e4, e5, e6, e7, rfl⟩
    obtain ⟨b, hb', rfl⟩ := map_get hk
    rw [drop_get hb'] at e2 e4 e7
    rw [tots_cons] at e7
    have lw := wrB_len e4.1 tx
    refine ⟨_, rfl, ?_⟩
    repeat wtm_at "s"
    refine read_all_wp (sg := sg) (n := n) (b := b) rfl hs h1 h2 (hok b (List.mem_of_getElem? hb')) e4.1 e5 e6 (by omega) ?_
    repeat wtm_at "s"
    refine ⟨A ++ [wrB tx b], tx ++ wrB tx b, kpB wd n b, by rw [List.map_append]; rfl, ?_, e4.2, kpB_le b e5, ?_, ?_, rfl⟩
    · rw [← e2, whl]; simp
    · rw [List.length_append, lw]; exact kpB_len b e6
    · rw [List.length_append, lw]; omega
  · rintro xs e ⟨A, tx, n, rfl, e2, e4, e5, e6, e7, rfl⟩
    rw [bD, List.length_map, List.drop_length, whl, List.append_nil] at e2
    subst e2
    repeat wtm_at "s"
    exact h
theorem lost_wp {sg : List Nat} {wd : Nat} {tx : List Nat} {n m : Nat} {Q : W → Env' → Prop} (hm : m ≤ 1000) (hl : tx.length + m ≤ 10000) (h : Q (.sh (.str (List.replicate m 63))) [some (rdW sg wd (tx ++ List.replicate m 63) (min wd (n + m))), some (.sh (.int m))]) : Wp (F_Reader_lost [some (rdW sg wd tx n), some (.sh (.int m))]) Q := by
  unfold F_Reader_lost
  with_reducible refine w_fn.mpr ?_
  refine ⟨rfl, ?_⟩
  unfold rdW
  repeat wtm_at "s"
  refine note_wp (sg := sg) (n := n) (by rw [List.length_replicate]; exact hl) ?_
  rw [List.length_replicate]
  repeat wtm_at "s"
  exact h
theorem spoilt_wp {w u : W} {sg : List Nat} {wd : Nat} {bs : List (List Tkn)} {gone : List Nat} {Q : W → Env' → Prop} (hv : w.view = .lst (bD bs)) (hu : u.view = .lst (iL gone)) (hs : sgB sg = true) (h1 : 1 ≤ wd) (h2 : wd ≤ 12) (hok : ∀ b ∈ bs, ∀ t ∈ b, t.ok sg) (hb : sndBs wd 0 bs) (hl : tots bs ≤ 5000) (hm : ∀ b ∈ bs, tot b ≤ 1000) (hc : bs.length ≤ 1000)
    (h : Q (.ml ((spo gone 0 [] bs).map .str)) [some (.sh (.str sg)), some (.sh (.int wd)), some w, some u]) : Wp (F_spoilt [some (.sh (.str sg)), some (.sh (.int wd)), some w, some u]) Q := by
  unfold F_spoilt
  with_reducible refine w_fn.mpr ?_
  refine ⟨rfl, ?_⟩
  repeat wtm_at "s"
  refine reader_wp hs h1 h2 ?_
  refine ⟨rfl, _, _, rfl, ?_⟩
  repeat wtm_at "s"
  refine wp_forE rfl (by rw [hv]; rfl) ?_
  refine wp_for _ (fun k e => ∃ (A : List (List Nat)) (tx : List Nat) (n n0 : Nat) (x y : Option W), A ++ spo gone k tx (bs.drop k) = spo gone 0 [] bs ∧ A.length = k ∧ sndBs wd n0 (bs.drop k) ∧ n0 ≤ n ∧ n ≤ wd ∧ n ≤ tx.length ∧ tx.length + tots (bs.drop k) ≤ 5000 ∧ e = [some (.sh (.str sg)), some (.sh (.int wd)), none, some u, some (rdW sg wd tx n), some (.ml (A.map .str)), x, y, none]) ?_ ?_ ?_
  · exact ⟨[], [], 0, 0, _, _, rfl, rfl, hb, Nat.le_refl _, Nat.zero_le _, Nat.zero_le _, by simpa using hl, rfl⟩
  · rintro k d e hk ⟨A, tx, n, n0, x, y, e2, eA, e4, e5, e5', e6, e7, rfl⟩
    obtain ⟨b, hb', rfl⟩ := enm_get hk
    have hk2 : k < bs.length := (List.getElem?_eq_some_iff.mp hb').1
    rw [drop_get hb'] at e2 e4 e7
    rw [tots_cons] at e7
    rw [spo] at e2
    have hbm := hm b (List.mem_of_getElem? hb')
    have mA : (A.map D.str).length = k := by rw [List.length_map]; exact eA
    refine ⟨_, rfl, ?_⟩
    repeat wtm_at "s"
    refine ⟨_, by rw [hu]; show (inD _ _).map _ = _; rw [in_iL]; rfl, ?_⟩
    repeat wtm_at "s"
    refine ite_dec (fun h3 => ?_) (fun h3 => ?_)
    · have es : segB gone k tx b = List.replicate (tot b) 63 := if_pos h3
      have kk := kpB_lost (wd := wd) b (n := n0)
      repeat wtm_at "s"
      refine wp_lc_map (fun t : Tkn => .int (t.sz : Int)) ?_ ?_
      · intro t _
        refine ⟨_, rfl, ?_⟩
        repeat wtm_at "s"
        refine size_wp ?_
        repeat wtm_at "s"
        exact ⟨rfl, rfl⟩
      refine ⟨_, sum_sz b, ?_⟩
      rw [rst1 rfl]
      repeat wtm_at "s"
      refine lost_wp (sg := sg) (n := n) hbm (by omega) ?_
      repeat wtm_at "s"
      refine app_ex rfl (by omega) ?_
      repeat wtm_at "s"
      refine ⟨A ++ [List.replicate (tot b) 63], tx ++ List.replicate (tot b) 63, min wd (n + tot b), kpB wd n0 b, _, _, ?_, by simp [eA], e4.2, by omega, by omega, ?_, ?_, by rw [List.map_append]; rfl⟩
      · rw [← e2, es]; simp
      · rw [List.length_append, List.length_replicate]; omega
      · rw [List.length_append, List.length_replicate]; omega
    · have es : segB gone k tx b = wrB tx b := if_neg h3
      have lw := wrB_len e4.1 tx
      repeat wtm_at "s"
      refine read_all_wp (sg := sg) (n := n) (b := b) rfl hs h1 h2 (hok b (List.mem_of_getElem? hb')) (e4.1.mono e5) e5' e6 (by omega) ?_
      repeat wtm_at "s"
      refine app_ex rfl (by omega) ?_
      repeat wtm_at "s"
      refine ⟨A ++ [wrB tx b], tx ++ wrB tx b, kpB wd n b, kpB wd n0 b, _, _, ?_, by simp [eA], e4.2, kpB_mono wd b e5, kpB_le b e5', ?_, ?_, by rw [List.map_append]; rfl⟩
      · rw [← e2, es]; simp
      · rw [List.length_append, lw]; exact kpB_len b e6
      · rw [List.length_append, lw]; omega
  · rintro e ⟨A, tx, n, n0, x, y, e2, eA, e4, e5, e5', e6, e7, rfl⟩
    rw [enumF_len, bD, List.length_map, List.drop_length, spo, List.append_nil] at e2
    subst e2
    repeat wtm_at "s"
    exact h
theorem lkept_wp {wd n : Nat} {t : Tkn} {Q : W → Env' → Prop} (h : Q (.sh (.int (kpt wd n t : Nat))) [some (.sh (.lst [t.d])), some (.sh (.int wd)), some (.sh (.int n))]) : Wp (F_l_kept [some (.sh (.lst [t.d])), some (.sh (.int wd)), some (.sh (.int n))]) Q := by
  unfold F_l_kept
  with_reducible refine w_fn.mpr ?_
  refine ⟨rfl, ?_⟩
  repeat wtm_at "s"
  refine wp_forN rfl rfl ?_
  refine wp_for _ (fun k e => ∃ (x : Option W) (v : Nat), v = (if k = 0 then n else kpt wd n t) ∧ e = [none, some (.sh (.int wd)), some (.sh (.int n)), some (.sh (.int v)), x]) ?_ ?_ ?_
  · exact ⟨_, n, rfl, rfl⟩
  · rintro k d e hk ⟨x, v, hv, rfl⟩
    cases k with
    | succ k => simp at hk
    | zero =>
      cases hk
      obtain rfl : v = n := hv
      refine ⟨_, rfl, ?_⟩
      cases t with
      | flush =>
        dsimp only [Tkn.d, kpt]
        repeat wtm_at "s"
        exact ⟨_, 0, rfl, rfl⟩
      | text s =>
        repeat wtm_at "s"
        refine lsize_wp (t := .text s) ?_
        repeat wtm_at "s"
        refine ⟨some (.sh (Tkn.text s).d), kpt wd v (.text s), rfl, ?_⟩
        rw [show (if (v : Int) + ((Tkn.text s).sz : Int) < (wd : Int) then (v : Int) + ((Tkn.text s).sz : Int) else (wd : Int)) = ((kpt wd v (.text s) : Nat) : Int) by simp only [kpt]; split <;> omega]
      | any s =>
        repeat wtm_at "s"
        refine lsize_wp (t := .any s) ?_
        repeat wtm_at "s"
        refine ⟨some (.sh (Tkn.any s).d), kpt wd v (.any s), rfl, ?_⟩
        rw [show (if (v : Int) + ((Tkn.any s).sz : Int) < (wd : Int) then (v : Int) + ((Tkn.any s).sz : Int) else (wd : Int)) = ((kpt wd v (.any s) : Nat) : Int) by simp only [kpt]; split <;> omega]
      | copy f m =>
        repeat wtm_at "s"
        refine lsize_wp (t := .copy f m) ?_
        repeat wtm_at "s"
        refine ⟨some (.sh (Tkn.copy f m).d), kpt wd v (.copy f m), rfl, ?_⟩
        rw [show (if (v : Int) + ((Tkn.copy f m).sz : Int) < (wd : Int) then (v : Int) + ((Tkn.copy f m).sz : Int) else (wd : Int)) = ((kpt wd v (.copy f m) : Nat) : Int) by simp only [kpt]; split <;> omega]
      | say f m =>
        repeat wtm_at "s"
        refine lsize_wp (t := .say f m) ?_
        repeat wtm_at "s"
        refine ⟨some (.sh (Tkn.say f m).d), kpt wd v (.say f m), rfl, ?_⟩
        rw [show (if (v : Int) + ((Tkn.say f m).sz : Int) < (wd : Int) then (v : Int) + ((Tkn.say f m).sz : Int) else (wd : Int)) = ((kpt wd v (.say f m) : Nat) : Int) by simp only [kpt]; split <;> omega]
  · rintro e ⟨x, v, rfl, rfl⟩
    repeat wtm_at "s"
    exact h
theorem plain_token_wp {g : Bag} {sg : List Nat} {n most : Nat} {Q : W → Env' → Prop} (hg : g.Ok) (hs : 0 < sg.length) (hs2 : sg.length ≤ 100) (hn : n ≤ 12) (hm : 1 ≤ most) (hm2 : most ≤ 40)
    (h : ∀ t g', okT n t → t.ok sg → t.sz ≤ most → Bag.Ok g' → Q (.sh t.d) [some g'.w, some (.sh (.str sg)), some (.sh (.int n)), some (.sh (.int most))]) : Wp (F_l_plain_token [some g.w, some (.sh (.str sg)), some (.sh (.int n)), some (.sh (.int most))]) Q := by
  unfold F_l_plain_token
  with_reducible refine w_fn.mpr ?_
  refine ⟨rfl, ?_⟩
  repeat wtm_at "s"
  refine take_n (m := 7) hg (by decide) (by decide) fun way g1 w1 hg1 => ?_
  repeat wtm_at "s"
  refine take_n (m := most) hg1 (by omega) (by omega) fun r g2 r1 hg2 => ?_
  repeat wtm_at "s"
  have one : (1 : Int) + (r : Int) = ((1 + r : Nat) : Int) := by omega
  rw [one]
  have last : if ((way : Int) == 3) = true then Wp (tupM id [(kc (.str [102, 108, 117, 115, 104]))] [some g2.w, some (.sh (.str sg)), some (.sh (.int n)), some (.sh (.int most)), some (.sh (.int way)), some (.sh (.int ((1 + r : Nat) : Int)))]) (fun w e' => Q w (finE [4, 5] 4 [some g.w, some (.sh (.str sg)), some (.sh (.int n)), some (.sh (.int most))] e')) else Wp (tupM id [(kc (.str [116, 101, 120, 116])), (fz (callM [.inl 0, .inl 1, .inr (m2 W.view min2D (nm 5) (kc (.int 5)))] F_l_word))] [some g2.w, some (.sh (.str sg)), some (.sh (.int n)), some (.sh (.int most)), some (.sh (.int way)), some (.sh (.int ((1 + r : Nat) : Int)))]) (fun w e' => Q w (finE [4, 5] 4 [some g.w, some (.sh (.str sg)), some (.sh (.int n)), some (.sh (.int most))] e')) := by
    refine ite_b (fun q => ?_) (fun q => ?_)
    · repeat wtm_at "s"
      exact h .flush g2 trivial trivial (Nat.zero_le _) hg2
    · repeat wtm_at "s"
      rw [show (if (5 : Int) < ((1 + r : Nat) : Int) then (5 : Int) else ((1 + r : Nat) : Int)) = ((min 5 (1 + r) : Nat) : Int) by split <;> omega]
      refine word_wp hg2 hs hs2 (by omega) fun s g3 s1 s2 hg3 => ?_
      repeat wtm_at "s"
      exact h (.text s) g3 trivial ⟨by omega, by omega, s2⟩ (by show s.length ≤ most; omega) hg3
  refine ite_b (fun q => ?_) (fun q => ?_)
  · repeat wtm_at "s"
    refine ite_b (fun q2 => ?_) (fun q2 => ?_)
    · have hn0 : 0 < n := by simpa using q2
      repeat wtm_at "s"
      refine take_n (m := n) hg2 hn0 (by omega) fun r2 g3 r3 hg3 => ?_
      repeat wtm_at "s"
      have := h (.copy (1 + r2) (1 + r)) g3 (show 1 + r2 ≤ n by omega) ⟨by omega, by omega, by omega, by omega⟩ (show 1 + r ≤ most by omega) hg3
      rw [show (1 : Int) + (r2 : Int) = ((1 + r2 : Nat) : Int) by omega]
      exact this
    · repeat wtm_at "s"
      exact last
  · repeat wtm_at "s"
    exact last
theorem blocks_wp {g : Bag} {sg : List Nat} {wd c : Nat} {Q : W → Env' → Prop} (hg : g.Ok) (hs : 0 < sg.length) (hs2 : sg.length ≤ 100) (hw : wd ≤ 12) (hc : c ≤ 6)
    (h : ∀ bs g', bs.length = c → sndBs wd 0 bs → (∀ b ∈ bs, ∀ t ∈ b, t.ok sg) → (∀ b ∈ bs, b.length ≤ 3 ∧ tot b ≤ 30) → Bag.Ok g' → Q (.ml (bD bs)) [some g'.w, some (.sh (.str sg)), some (.sh (.int wd)), some (.sh (.int c))]) : Wp (F_l_blocks [some g.w, some (.sh (.str sg)), some (.sh (.int wd)), some (.sh (.int c))]) Q := by
  unfold F_l_blocks
  with_reducible refine w_fn.mpr ?_
  refine ⟨rfl, ?_⟩
  repeat wtm_at "s"
  refine take_n (m := 4) hg (by decide) (by decide) fun way g1 w1 hg1 => ?_
  obtain ⟨most, m1, m2, em⟩ : ∃ most : Nat, 1 ≤ most ∧ most ≤ 10 ∧ ixD (.lst [.int 2, .int 3, .int 5, .int 10]) (.int (way : Int)) = some (.sh (.int (most : Int))) := by
    have : way = 0 ∨ way = 1 ∨ way = 2 ∨ way = 3 := by omega
    rcases this with rfl | rfl | rfl | rfl
    · exact ⟨2, by decide, by decide, rfl⟩
    · exact ⟨3, by decide, by decide, rfl⟩
    · exact ⟨5, by decide, by decide, rfl⟩
    · exact ⟨10, by decide, by decide, rfl⟩
  repeat wtm_at "s"
  refine ⟨_, em, ?_⟩
  repeat wtm_at "s"
  refine wp_for _ (fun k e => ∃ (bs : List (List Tkn)) (g : Bag) (x y z w : Option W), bs.length = k ∧ sndBs wd 0 bs ∧ (∀ b ∈ bs, ∀ t ∈ b, t.ok sg) ∧ (∀ b ∈ bs, b.length ≤ 3 ∧ tot b ≤ 30) ∧ g.Ok ∧ e = [some g.w, some (.sh (.str sg)), some (.sh (.int wd)), some (.sh (.int c)), some (.ml (bD bs)), some (.sh (.int (kpBs wd 0 bs : Nat))), some (.sh (.int most)), x, y, z, w]) ?_ ?_ ?_
  · exact ⟨[], g1, _, _, _, _, rfl, trivial, by simp, by simp, hg1, rfl⟩
  · rintro k d e hk ⟨bs, g2, x, y, z, w, b1, b2, b3, b4, hg2, rfl⟩
    have hk2 := (rng_get hk).1
    have hbD : (bD bs).length = k := by rw [bD, List.length_map]; exact b1
    refine ⟨_, rfl, ?_⟩
    repeat wtm_at "s"
    refine take_n (m := 4) hg2 (by decide) (by decide) fun r g3 w3 hg3 => ?_
    repeat wtm_at "s"
    refine wp_for _ (fun j e => ∃ (b : List Tkn) (g : Bag) (z w : Option W), b.length = j ∧ sndB wd (kpBs wd 0 bs) b ∧ (∀ t ∈ b, t.ok sg) ∧ tot b ≤ 10 * j ∧ g.Ok ∧ e = [some g.w, some (.sh (.str sg)), some (.sh (.int wd)), some (.sh (.int c)), some (.ml (bD bs)), some (.sh (.int (kpB wd (kpBs wd 0 bs) b : Nat))), some (.sh (.int most)), some (.sh d), some (.ml (b.map Tkn.d)), z, w]) ?_ ?_ ?_
    · exact ⟨[], g3, _, _, rfl, trivial, by simp, by simp [tot], hg3, rfl⟩
    · rintro j d2 e hj ⟨b, g4, z, w, c1, c2, c3, c4, hg4, rfl⟩
      have hj2 := (rng_get hj).1
      have hkk : kpB wd (kpBs wd 0 bs) b ≤ wd := kpB_le b (kpBs_le bs (Nat.zero_le _))
      refine ⟨_, rfl, ?_⟩
      repeat wtm_at "s"
      refine plain_token_wp hg4 hs hs2 (by omega) m1 (by omega) fun t g5 t1 t2 t3 hg5 => ?_
      repeat wtm_at "s"
      refine lkept_wp ?_
      repeat wtm_at "s"
      refine app_ex rfl (by rw [List.length_map]; omega) ?_
      repeat wtm_at "s"
      refine ⟨b ++ [t], g5, some (.sh d2), some (.sh t.d), by simp [c1], ?_, ?_, ?_, hg5, ?_⟩
      · rw [sndB_app]; exact ⟨c2, t1, trivial⟩
      · intro u q
        rcases List.mem_append.mp q with q | q
        · exact c3 u q
        · rw [List.mem_singleton.mp q]; exact t2
      · rw [tot_app, tot_one]; omega
      · rw [kpB_app, List.map_append]; rfl
    · rintro e ⟨b, g4, z, w, c1, c2, c3, c4, hg4, rfl⟩
      rw [rng_len'] at c1 c4
      repeat wtm_at "s"
      refine app_ex rfl (by omega) ?_
      repeat wtm_at "s"
      refine ⟨bs ++ [b], g4, some (.sh d), some (.sh (.lst (b.map Tkn.d))), z, w, by simp [b1], ?_, ?_, ?_, hg4, ?_⟩
      · rw [sndBs_app]; exact ⟨b2, c2, trivial⟩
      · intro u q
        rcases List.mem_append.mp q with q | q
        · exact b3 u q
        · rw [List.mem_singleton.mp q]; exact c3
      · intro u q
        rcases List.mem_append.mp q with q | q
        · exact b4 u q
        · rw [List.mem_singleton.mp q]; omega
      · rw [kpBs_app, bD, bD, List.map_append]; rfl
  · rintro e ⟨bs, g2, x, y, z, w, b1, b2, b3, b4, hg2, rfl⟩
    rw [rng_len'] at b1
    repeat wtm_at "s"
    exact h bs g2 (by omega) b2 b3 b4 hg2
def sD (x : Nat × Option Nat) : D := .tup [.int (x.1 : Int), oN x.2]
theorem backs_wp {w : W} {wd : Nat} {sg : List Nat} {bs : List (List Tkn)} {Q : W → Env' → Prop} (hv : w.view = .lst (bD bs)) (hs : sndBs wd 0 bs) (hl : tots bs ≤ 5000) (hc : bs.length ≤ 1000) (hm : ∀ b ∈ bs, tot b ≤ 1000)
    (h : Q (.ml ((srcs 0 0 bs).map sD)) [some w]) : Wp (F_l_backs [some w]) Q := by
  have hbl : (bD bs).length ≤ 1000 := by rw [bD, List.length_map]; exact hc
  unfold F_l_backs
  with_reducible refine w_fn.mpr ?_
  refine ⟨rfl, ?_⟩
  repeat wtm_at "s"
  rw [hv]
  repeat wtm_at "s"
  refine wp_for _ (fun k e => ∃ (x y z : Option W), e = [some w, some (.ml ((srcs 0 0 (bs.take k)).map sD)), x, y, z]) ?_ ?_ ?_
  · exact ⟨_, _, _, rfl⟩
  · rintro k d e hk ⟨x, y, z, rfl⟩
    obtain ⟨hk2, rfl⟩ := rng_get hk
    rw [bD, List.length_map, Int.toNat_natCast] at hk2
    obtain ⟨b, hb'⟩ : ∃ b, bs[k]? = some b := ⟨_, List.getElem?_eq_getElem hk2⟩
    have hbD : (bD bs)[k]? = some (.lst (b.map Tkn.d)) := by rw [bD, List.getElem?_map, hb']; rfl
    have hix : ixD w.view (.int (k : Int)) = some (.sh (.lst (b.map Tkn.d))) := by rw [hv]; exact ix_nat hbD
    have hbm := hm b (List.mem_of_getElem? hb')
    have hlt := tots_take_le bs (k + 1)
    have e0 : srcs 0 0 (bs.take (k + 1)) = srcs 0 0 (bs.take k) ++ bks k (tots (bs.take k)) b := by
      rw [take_snoc hb', srcs_app, List.length_take, show min k bs.length = k by omega, srcs, srcs, List.append_nil, Nat.zero_add, Nat.zero_add]
    rw [take_snoc hb', tots_app] at hlt
    have et : tots [b] = tot b := by simp [tots]
    rw [et] at hlt
    have hl1 := srcs_len (bs.take k) 0 0
    refine ⟨_, rfl, ?_⟩
    repeat wtm_at "s"
    refine ⟨_, hix, ?_⟩
    repeat wtm_at "s"
    refine wp_for _ (fun i e => ∃ (y z : Option W), e = [some w, some (.ml ((srcs 0 0 (bs.take k) ++ bks k (tots (bs.take k)) (b.take i)).map sD)), some (.sh (.int k)), y, z]) ?_ ?_ ?_
    · exact ⟨_, _, by rw [List.take_zero, bks, List.append_nil]⟩
    · rintro i d e hi ⟨y, z, rfl⟩
      obtain ⟨t, ht, rfl⟩ := map_get hi
      have hlt2 := tot_take_le b (i + 1)
      have e1 : bks k (tots (bs.take k)) (b.take (i + 1)) = bks k (tots (bs.take k)) (b.take i) ++ tks k (tots (bs.take k) + tot (b.take i)) t t.sz := by
        rw [take_snoc ht, bks_app, bks, bks, List.append_nil]
      rw [take_snoc ht, tot_app, tot_one] at hlt2
      have hl2 := bks_len k (b.take i) (tots (bs.take k))
      have hfar : ∀ f, t.far = some f → f ≤ tots (bs.take k) + tot (b.take i) := fun f hf => far_le hs hb' ht hf
      refine ⟨_, rfl, ?_⟩
      repeat wtm_at "s"
      refine lsize_wp ?_
      repeat wtm_at "s"
      refine wp_for _ (fun j e => ∃ (z : Option W), e = [some w, some (.ml ((srcs 0 0 (bs.take k) ++ bks k (tots (bs.take k)) (b.take i) ++ tks k (tots (bs.take k) + tot (b.take i)) t j).map sD)), some (.sh (.int k)), some (.sh t.d), z]) ?_ ?_ ?_
      · exact ⟨_, by rw [tks, List.range_zero, List.map_nil, List.append_nil]⟩
      · rintro j d e hj ⟨z, rfl⟩
        obtain ⟨hj2, rfl⟩ := rng_get hj
        have hl3 : (tks k (tots (bs.take k) + tot (b.take i)) t j).length = j := by rw [tks, List.length_map, List.length_range]
        have e2 : tks k (tots (bs.take k) + tot (b.take i)) t (j + 1) = tks k (tots (bs.take k) + tot (b.take i)) t j ++ [(k, tback t.far (tots (bs.take k) + tot (b.take i) + j))] := by
          rw [tks, List.range_succ, List.map_append]; rfl
        have hL : (srcs 0 0 (bs.take k) ++ bks k (tots (bs.take k)) (b.take i) ++ tks k (tots (bs.take k) + tot (b.take i)) t j).length = tots (bs.take k) + tot (b.take i) + j := by
          rw [List.length_append, List.length_append, hl1, hl2, hl3]
        have hj3 : j < t.sz := by omega
        have hPj : tots (bs.take k) + tot (b.take i) + j ≤ 6000 := by omega
        rw [e2, ← List.append_assoc]
        generalize srcs 0 0 (bs.take k) ++ bks k (tots (bs.take k)) (b.take i) ++ tks k (tots (bs.take k) + tot (b.take i)) t j = F at hL ⊢
        generalize tots (bs.take k) + tot (b.take i) = P at hL hfar hPj ⊢
        have hLm : (F.map sD).length = P + j := by rw [List.length_map]; exact hL
        refine ⟨_, rfl, ?_⟩
        cases t with
        | copy f m =>
          have hf := hfar f rfl
          dsimp only [Tkn.d]
          repeat wtm_at "s"
          rw [hLm]
          refine app_ex rfl (by omega) ?_
          repeat wtm_at "s"
          refine ⟨some (.sh (.int j)), ?_⟩
          rw [List.map_append, show (((P + j : Nat) : Int) - (f : Int)) = ((P + j - f : Nat) : Int) by omega]
          rfl
        | text s =>
          dsimp only [Tkn.d]
          repeat wtm_at "s"
          refine app_ex rfl (by omega) ?_
          repeat wtm_at "s"
          exact ⟨some (.sh (.int j)), by rw [List.map_append]; rfl⟩
        | any s =>
          dsimp only [Tkn.d]
          repeat wtm_at "s"
          refine app_ex rfl (by omega) ?_
          repeat wtm_at "s"
          exact ⟨some (.sh (.int j)), by rw [List.map_append]; rfl⟩
        | say f m =>
          dsimp only [Tkn.d]
          repeat wtm_at "s"
          refine app_ex rfl (by omega) ?_
          repeat wtm_at "s"
          exact ⟨some (.sh (.int j)), by rw [List.map_append]; rfl⟩
        | flush => simp [Tkn.sz] at hj3
      · rintro e ⟨z, rfl⟩
        rw [rng_len', Int.toNat_natCast, e1, ← List.append_assoc]
        exact ⟨some (.sh t.d), z, rfl⟩
    · rintro e ⟨y, z, rfl⟩
      rw [List.length_map, List.take_length, e0]
      exact ⟨some (.sh (.int k)), y, z, rfl⟩
  · rintro e ⟨x, y, z, rfl⟩
    rw [rng_len', Int.toNat_natCast, bD, List.length_map, List.take_length]
    repeat wtm_at "s"
    exact h
def chB (X : List (Nat × Option Nat)) : Nat → Nat → List Nat
  | 0, _ => []
  | f + 1, q => match X[q]? with
    | none => []
    | some (a, none) => [a]
    | some (a, some b) => a :: chB X f b
def Back (X : List (Nat × Option Nat)) : Prop := ∀ (q : Nat) (x : Nat × Option Nat), X[q]? = some x → ∀ b, x.2 = some b → b < q
theorem chB_more {X : List (Nat × Option Nat)} (hX : Back X) : ∀ (q f : Nat), q < f → chB X f q = chB X (q + 1) q := by
  intro q
  induction q using Nat.strongRecOn with
  | _ q ih =>
    intro f hf
    obtain ⟨f', rfl⟩ : ∃ f', f = f' + 1 := ⟨f - 1, by omega⟩
    unfold chB
    cases e : X[q]? with
    | none => rfl
    | some x =>
      obtain ⟨a, b⟩ := x
      cases b with
      | none => rfl
      | some b =>
        have hb := hX q _ e b rfl
        dsimp only
        rw [ih b hb f' (by omega), ih b hb q hb]
def chQ (X : List (Nat × Option Nat)) (q : Nat) : List Nat := chB X (q + 1) q
theorem chQ_none {X : List (Nat × Option Nat)} {q a : Nat} (h : X[q]? = some (a, none)) : chQ X q = [a] := by
  unfold chQ chB; rw [h]
theorem chQ_some {X : List (Nat × Option Nat)} (hX : Back X) {q a b : Nat} (h : X[q]? = some (a, some b)) : chQ X q = a :: chQ X b := by
  unfold chQ
  conv => lhs; unfold chB
  rw [h]
  dsimp only
  rw [chB_more hX b q (hX q _ h b rfl)]
theorem chB_len {X : List (Nat × Option Nat)} : ∀ f q, (chB X f q).length ≤ f
  | 0, _ => Nat.le_refl _
  | f + 1, q => by
    unfold chB
    cases e : X[q]? with
    | none => exact Nat.zero_le _
    | some x =>
      obtain ⟨a, b⟩ := x
      cases b with
      | none => exact Nat.succ_le_succ (Nat.zero_le _)
      | some b => exact Nat.succ_le_succ (chB_len f b)
theorem chB_mem {X : List (Nat × Option Nat)} {n : Nat} (hn : ∀ (q : Nat) (x : Nat × Option Nat), X[q]? = some x → x.1 < n) : ∀ f q, ∀ a ∈ chB X f q, a < n
  | 0, _, a, h => by cases h
  | f + 1, q, a, h => by
    unfold chB at h
    cases e : X[q]? with
    | none => rw [e] at h; cases h
    | some x =>
      have h1 := hn q x e
      obtain ⟨c, b⟩ := x
      rw [e] at h
      cases b with
      | none => rw [List.mem_singleton.mp h]; exact h1
      | some b =>
        rcases List.mem_cons.mp h with rfl | z
        · exact h1
        · exact chB_mem hn f b a z
def mkQ (gone : List Nat) (X : List (Nat × Option Nat)) (q : Nat) : Bool := (chQ X q).any fun a => decide (a ∈ gone)
def foldX (gone wh : List Nat) (n : Nat) (X : List (Nat × Option Nat)) (k : Nat) : List Bool × List (List Nat) := (X.take k).foldl (lstep gone wh) ([], List.replicate n [])
section
variable {gone wh : List Nat} {n : Nat} {X : List (Nat × Option Nat)}
theorem foldX_succ {k : Nat} {x : Nat × Option Nat} (h : X[k]? = some x) : foldX gone wh n X (k + 1) = lstep gone wh (foldX gone wh n X k) x := by
  unfold foldX
  rw [take_snoc h, List.foldl_append]; rfl
theorem foldX_len {k : Nat} (hk : k ≤ X.length) : (foldX gone wh n X k).1.length = k ∧ (foldX gone wh n X k).2.length = n := by
  obtain ⟨h1, h2⟩ := fold_len gone wh (X.take k) ([], List.replicate n [])
  unfold foldX
  rw [h1, h2, List.length_take, List.length_replicate]
  exact ⟨by show 0 + min k X.length = k; omega, rfl⟩
theorem foldX_mark (hX : Back X) : ∀ k, k ≤ X.length → ∀ q, q < k → (foldX gone wh n X k).1.getD q false = mkQ gone X q
  | 0, _, q, h => absurd h (Nat.not_lt_zero _)
  | k + 1, hk, q, h => by
    have hx : X[k]? = some X[k] := List.getElem?_eq_getElem (by omega)
    obtain ⟨l1, l2⟩ := foldX_len (gone := gone) (wh := wh) (n := n) (X := X) (k := k) (by omega)
    have ih := foldX_mark hX k (by omega)
    rw [foldX_succ hx]
    unfold lstep
    dsimp only
    by_cases c : q < k
    · rw [getD_app_l (by rw [l1]; exact c)]
      exact ih q c
    · obtain rfl : q = k := by omega
      have := getD_app_r (foldX gone wh n X q).1 [lmark gone (foldX gone wh n X q).1 X[q]] 0 false
      rw [l1, Nat.add_zero] at this
      rw [this]
      show lmark gone (foldX gone wh n X q).1 X[q] = mkQ gone X q
      generalize X[q] = x at hx
      obtain ⟨a, b⟩ := x
      cases b with
      | none =>
        unfold lmark mkQ
        rw [chQ_none hx]
        simp
      | some b =>
        have hb := hX q _ hx b rfl
        unfold lmark mkQ
        rw [chQ_some hX hx, List.any_cons]
        dsimp only
        rw [ih b hb]
        rfl
def posJ (X : List (Nat × Option Nat)) (k j : Nat) : List Nat := (List.range k).filter fun q => decide ((X.getD q (0, none)).1 = j)
theorem foldX_txt (hX : Back X) (hn : ∀ (q : Nat) (x : Nat × Option Nat), X[q]? = some x → x.1 < n) : ∀ k, k ≤ X.length → ∀ j, (foldX gone wh n X k).2.getD j [] = (posJ X k j).map fun q => if mkQ gone X q = true then 63 else wh.getD q 0
  | 0, _, j => by
    show (List.replicate n ([] : List Nat)).getD j [] = []
    rw [List.getD_eq_getElem?_getD, List.getElem?_replicate]
    split <;> rfl
  | k + 1, hk, j => by
    have hx : X[k]? = some X[k] := List.getElem?_eq_getElem (by omega)
    obtain ⟨l1, l2⟩ := foldX_len (gone := gone) (wh := wh) (n := n) (X := X) (k := k) (by omega)
    have ih := foldX_txt hX hn k (by omega) j
    have hm := foldX_mark (gone := gone) (wh := wh) (n := n) hX (k + 1) hk k (Nat.lt_succ_self _)
    have hxd : X.getD k (0, none) = X[k] := by rw [List.getD_eq_getElem?_getD, hx]; rfl
    have h1 := hn k _ hx
    rw [foldX_succ hx] at hm ⊢
    unfold lstep at hm ⊢
    dsimp only at hm ⊢
    have := getD_app_r (foldX gone wh n X k).1 [lmark gone (foldX gone wh n X k).1 X[k]] 0 false
    rw [l1, Nat.add_zero] at this
    rw [this] at hm
    have hm : lmark gone (foldX gone wh n X k).1 X[k] = mkQ gone X k := hm
    rw [hm, l1]
    unfold posJ at ih ⊢
    rw [List.range_succ, List.filter_append, List.map_append, ← ih]
    by_cases c : X[k].1 = j
    · rw [List.getD_eq_getElem?_getD, List.getElem?_set, if_pos c, if_pos (by rw [l2]; exact h1)]
      have e2 : [k].filter (fun q => decide ((X.getD q (0, none)).1 = j)) = [k] := by
        rw [List.filter_cons_of_pos (by rw [hxd]; exact decide_eq_true c)]; rfl
      rw [e2, ← c]
      rfl
    · rw [List.getD_eq_getElem?_getD, List.getElem?_set, if_neg c]
      have e2 : [k].filter (fun q => decide ((X.getD q (0, none)).1 = j)) = [] := by
        rw [List.filter_cons_of_neg (by rw [hxd]; simp [c])]; rfl
      rw [e2, List.map_nil, List.append_nil, ← List.getD_eq_getElem?_getD]
end
theorem segB_nil (a : Nat) (S : List Nat) (b : List Tkn) : segB [] a S b = wrB S b := by unfold segB; rw [if_neg List.not_mem_nil]
theorem spo_nil : ∀ (bs : List (List Tkn)) (a : Nat) (S : List Nat), spo [] a S bs = whl S bs
  | [], _, _ => rfl
  | b :: bs, a, S => by rw [spo, whl, segB_nil, spo_nil bs]
section
variable {wd : Nat} {sg : List Nat} {bs : List (List Tkn)}
theorem srcs_back (hs : sndBs wd 0 bs) (hok : ∀ b ∈ bs, ∀ t ∈ b, t.ok sg) : Back (srcs 0 0 bs) ∧ ∀ (q : Nat) (x : Nat × Option Nat), (srcs 0 0 bs)[q]? = some x → x.1 < bs.length := by
  refine ⟨fun q x hx b hb => ?_, fun q x hx => ?_⟩
  · obtain ⟨_, h2⟩ := srcs_at hs (Nat.le_refl 0) hok hx
    have := h2 b hb
    omega
  · obtain ⟨h1, _⟩ := srcs_at hs (Nat.le_refl 0) hok hx
    omega
/-- what stands in block j when gone is gone -/
theorem spo_at {gone : List Nat} (hs : sndBs wd 0 bs) (hok : ∀ b ∈ bs, ∀ t ∈ b, t.ok sg) (j : Nat) : (spo gone 0 [] bs).getD j [] = (posJ (srcs 0 0 bs) (tots bs) j).map fun q => if mkQ gone (srcs 0 0 bs) q = true then 63 else (whl [] bs).flatten.getD q 0 := by
  obtain ⟨hX, hn⟩ := srcs_back hs hok
  obtain ⟨Mz, hz⟩ := lspoilt (gone := gone) hs hok
  have h := foldX_txt (gone := gone) (wh := (whl [] bs).flatten) (n := bs.length) hX hn _ (Nat.le_refl _) j
  unfold foldX at h
  rw [List.take_length, hz, srcs_len] at h
  exact h
/-- the blocks that block j hangs on -/
def needL (X : List (Nat × Option Nat)) (j : Nat) : List Nat := j :: (posJ X X.length j).flatMap (chQ X)
theorem mkQ_iff {gone : List Nat} {X : List (Nat × Option Nat)} {q : Nat} : mkQ gone X q = true ↔ ∃ a ∈ chQ X q, a ∈ gone := by
  unfold mkQ
  rw [List.any_eq_true]
  constructor
  · rintro ⟨a, h1, h2⟩; exact ⟨a, h1, of_decide_eq_true h2⟩
  · rintro ⟨a, h1, h2⟩; exact ⟨a, h1, decide_eq_true h2⟩
theorem spo_same {gone : List Nat} {j : Nat} (hs : sndBs wd 0 bs) (hok : ∀ b ∈ bs, ∀ t ∈ b, t.ok sg) (h : ∀ a ∈ needL (srcs 0 0 bs) j, a ∉ gone) : (spo gone 0 [] bs).getD j [] = (whl [] bs).getD j [] := by
  rw [← spo_nil bs 0 [], spo_at hs hok, spo_at hs hok]
  refine List.map_congr_left fun q hq => ?_
  have e1 : mkQ gone (srcs 0 0 bs) q = false := by
    cases e : mkQ gone (srcs 0 0 bs) q with
    | false => rfl
    | true =>
      obtain ⟨a, h1, h2⟩ := mkQ_iff.mp e
      exact absurd h2 (h a (List.mem_cons_of_mem _ (List.mem_flatMap.mpr ⟨q, by rw [srcs_len]; exact hq, h1⟩)))
  have e2 : mkQ [] (srcs 0 0 bs) q = false := by
    cases e : mkQ [] (srcs 0 0 bs) q with
    | false => rfl
    | true =>
      obtain ⟨a, h1, h2⟩ := mkQ_iff.mp e
      cases h2
  rw [e1, e2]
theorem chQ_head {X : List (Nat × Option Nat)} (hX : Back X) {q : Nat} {x : Nat × Option Nat} (h : X[q]? = some x) : x.1 ∈ chQ X q := by
  obtain ⟨a, b⟩ := x
  cases b with
  | none => rw [chQ_none h]; exact List.mem_singleton.mpr rfl
  | some b => rw [chQ_some hX h]; exact List.mem_cons_self
theorem spo_hurt {j a : Nat} (hs : sndBs wd 0 bs) (hok : ∀ b ∈ bs, ∀ t ∈ b, t.ok sg) (h : a ∈ needL (srcs 0 0 bs) j) (hne : (whl [] bs).getD j [] ≠ []) : 63 ∈ (spo [a] 0 [] bs).getD j [] := by
  obtain ⟨hX, hn⟩ := srcs_back hs hok
  rw [← spo_nil bs 0 [], spo_at hs hok] at hne
  rw [spo_at hs hok]
  have key : ∃ q ∈ posJ (srcs 0 0 bs) (tots bs) j, a ∈ chQ (srcs 0 0 bs) q := by
    rcases List.mem_cons.mp h with rfl | z
    · obtain ⟨q, hq⟩ := List.exists_mem_of_ne_nil (posJ (srcs 0 0 bs) (tots bs) a) (fun e => hne (by rw [e]; rfl))
      refine ⟨q, hq, ?_⟩
      unfold posJ at hq
      obtain ⟨q1, q2⟩ := List.mem_filter.mp hq
      have ql : q < (srcs 0 0 bs).length := by rw [srcs_len]; exact List.mem_range.mp q1
      have hx : (srcs 0 0 bs)[q]? = some (srcs 0 0 bs)[q] := List.getElem?_eq_getElem ql
      have hd := of_decide_eq_true q2
      rw [List.getD_eq_getElem?_getD, hx] at hd
      have := chQ_head hX hx
      rw [show ((srcs 0 0 bs)[q]).1 = a from hd] at this
      exact this
    · obtain ⟨q, h1, h2⟩ := List.mem_flatMap.mp z
      rw [srcs_len] at h1
      exact ⟨q, h1, h2⟩
  obtain ⟨q, h1, h2⟩ := key
  exact List.mem_map.mpr ⟨q, h1, by rw [if_pos (mkQ_iff.mpr ⟨a, h2, List.mem_singleton.mpr rfl⟩)]⟩
end
theorem sources_wp {w : W} {wd : Nat} {sg : List Nat} {bs : List (List Tkn)} {Q : W → Env' → Prop} (hv : w.view = .lst (bD bs)) (hs : sndBs wd 0 bs) (hl : tots bs ≤ 5000) (hc : bs.length ≤ 1000) (hm : ∀ b ∈ bs, tot b ≤ 1000)
    (h : Q (.ml ((srcs 0 0 bs).map sD)) [some (.sh (.lst (bD bs)))]) : Wp (F_sign_sources [some w]) Q := by
  have hbl : (bD bs).length ≤ 1000 := by rw [bD, List.length_map]; exact hc
  unfold F_sign_sources
  with_reducible refine w_fn.mpr ?_
  refine ⟨rfl, ?_⟩
  repeat wtm_at "s"
  rw [hv]
  refine ⟨_, rfl, ?_⟩
  refine wp_for _ (fun k e => ∃ (x xb y z : Option W), e = [some (.sh (.lst (bD bs))), some (.ml ((srcs 0 0 (bs.take k)).map sD)), x, xb, y, z]) ?_ ?_ ?_
  · exact ⟨_, _, _, _, rfl⟩
  · rintro k d e hk ⟨x, xb, y, z, rfl⟩
    obtain ⟨b, hb', rfl⟩ := enm_get hk
    have hk2 : k < bs.length := (List.getElem?_eq_some_iff.mp hb').1
    have hbm := hm b (List.mem_of_getElem? hb')
    have hlt := tots_take_le bs (k + 1)
    have e0 : srcs 0 0 (bs.take (k + 1)) = srcs 0 0 (bs.take k) ++ bks k (tots (bs.take k)) b := by
      rw [take_snoc hb', srcs_app, List.length_take, show min k bs.length = k by omega, srcs, srcs, List.append_nil, Nat.zero_add, Nat.zero_add]
    rw [take_snoc hb', tots_app] at hlt
    have et : tots [b] = tot b := by simp [tots]
    rw [et] at hlt
    have hl1 := srcs_len (bs.take k) 0 0
    refine ⟨_, rfl, ?_⟩
    repeat wtm_at "s"
    refine wp_for _ (fun i e => ∃ (y z : Option W), e = [some (.sh (.lst (bD bs))), some (.ml ((srcs 0 0 (bs.take k) ++ bks k (tots (bs.take k)) (b.take i)).map sD)), some (.sh (.int k)), some (.sh (.lst (b.map Tkn.d))), y, z]) ?_ ?_ ?_
    · exact ⟨_, _, by rw [List.take_zero, bks, List.append_nil]⟩
    · rintro i d e hi ⟨y, z, rfl⟩
      obtain ⟨t, ht, rfl⟩ := map_get hi
      have hlt2 := tot_take_le b (i + 1)
      have e1 : bks k (tots (bs.take k)) (b.take (i + 1)) = bks k (tots (bs.take k)) (b.take i) ++ tks k (tots (bs.take k) + tot (b.take i)) t t.sz := by
        rw [take_snoc ht, bks_app, bks, bks, List.append_nil]
      rw [take_snoc ht, tot_app, tot_one] at hlt2
      have hl2 := bks_len k (b.take i) (tots (bs.take k))
      have hfar : ∀ f, t.far = some f → f ≤ tots (bs.take k) + tot (b.take i) := fun f hf => far_le hs hb' ht hf
      refine ⟨_, rfl, ?_⟩
      repeat wtm_at "s"
      refine size_wp ?_
      repeat wtm_at "s"
      refine wp_for _ (fun j e => ∃ (z : Option W), e = [some (.sh (.lst (bD bs))), some (.ml ((srcs 0 0 (bs.take k) ++ bks k (tots (bs.take k)) (b.take i) ++ tks k (tots (bs.take k) + tot (b.take i)) t j).map sD)), some (.sh (.int k)), some (.sh (.lst (b.map Tkn.d))), some (.sh t.d), z]) ?_ ?_ ?_
      · exact ⟨_, by rw [tks, List.range_zero, List.map_nil, List.append_nil]⟩
      · rintro j d e hj ⟨z, rfl⟩
        obtain ⟨hj2, rfl⟩ := rng_get hj
        have hl3 : (tks k (tots (bs.take k) + tot (b.take i)) t j).length = j := by rw [tks, List.length_map, List.length_range]
        have e2 : tks k (tots (bs.take k) + tot (b.take i)) t (j + 1) = tks k (tots (bs.take k) + tot (b.take i)) t j ++ [(k, tback t.far (tots (bs.take k) + tot (b.take i) + j))] := by
          rw [tks, List.range_succ, List.map_append]; rfl
        have hL : (srcs 0 0 (bs.take k) ++ bks k (tots (bs.take k)) (b.take i) ++ tks k (tots (bs.take k) + tot (b.take i)) t j).length = tots (bs.take k) + tot (b.take i) + j := by
          rw [List.length_append, List.length_append, hl1, hl2, hl3]
        have hj3 : j < t.sz := by omega
        have hPj : tots (bs.take k) + tot (b.take i) + j ≤ 6000 := by omega
        rw [e2, ← List.append_assoc]
        generalize srcs 0 0 (bs.take k) ++ bks k (tots (bs.take k)) (b.take i) ++ tks k (tots (bs.take k) + tot (b.take i)) t j = F at hL ⊢
        generalize tots (bs.take k) + tot (b.take i) = P at hL hfar hPj ⊢
        have hLm : (F.map sD).length = P + j := by rw [List.length_map]; exact hL
        refine ⟨_, rfl, ?_⟩
        cases t with
        | copy f m =>
          have hf := hfar f rfl
          dsimp only [Tkn.d]
          repeat wtm_at "s"
          rw [hLm]
          refine app_ex rfl (by omega) ?_
          repeat wtm_at "s"
          refine ⟨some (.sh (.int j)), ?_⟩
          rw [List.map_append, show (((P + j : Nat) : Int) - (f : Int)) = ((P + j - f : Nat) : Int) by omega]
          rfl
        | text s =>
          dsimp only [Tkn.d]
          repeat wtm_at "s"
          refine app_ex rfl (by omega) ?_
          repeat wtm_at "s"
          exact ⟨some (.sh (.int j)), by rw [List.map_append]; rfl⟩
        | any s =>
          dsimp only [Tkn.d]
          repeat wtm_at "s"
          refine app_ex rfl (by omega) ?_
          repeat wtm_at "s"
          exact ⟨some (.sh (.int j)), by rw [List.map_append]; rfl⟩
        | say f m =>
          dsimp only [Tkn.d]
          repeat wtm_at "s"
          refine app_ex rfl (by omega) ?_
          repeat wtm_at "s"
          exact ⟨some (.sh (.int j)), by rw [List.map_append]; rfl⟩
        | flush => simp [Tkn.sz] at hj3
      · rintro e ⟨z, rfl⟩
        rw [rng_len', Int.toNat_natCast, e1, ← List.append_assoc]
        exact ⟨some (.sh t.d), z, rfl⟩
    · rintro e ⟨y, z, rfl⟩
      rw [List.length_map, List.take_length, e0]
      exact ⟨some (.sh (.int k)), _, y, z, rfl⟩
  · rintro e ⟨x, xb, y, z, rfl⟩
    rw [enumF_len, bD, List.length_map, List.take_length]
    repeat wtm_at "s"
    exact h
theorem behind_wp {v : W} {X : List (Nat × Option Nat)} {q : Nat} {Q : W → Env' → Prop} (hv : v.view = .lst (X.map sD)) (hX : Back X) (hq : q < X.length) (hl : X.length ≤ 5000) (h : Q (.ml (iL (chQ X q))) [some v, some (.sh (.int (q : Nat)))]) : Wp (F_blocks_behind [some v, some (.sh (.int (q : Nat)))]) Q := by
  unfold F_blocks_behind
  with_reducible refine w_fn.mpr ?_
  refine ⟨rfl, ?_⟩
  repeat wtm_at "s"
  refine wp_whil (fun m e => ∃ (st : Option Nat) (acc : List Nat) (x3 : Option W), (∀ p, st = some p → m = p + 1 ∧ p < X.length) ∧ acc ++ (match st with | some p => chQ X p | none => []) = chQ X q ∧ e = [some v, some (.sh (oN st)), some (.ml (iL acc)), x3]) (q + 1) (by omega) ⟨some q, [], _, fun p hp => by cases hp; exact ⟨rfl, hq⟩, rfl, rfl⟩ ?_
  rintro m e ⟨st, acc, x3, h1, h2, rfl⟩
  have hal : acc.length ≤ 6000 := by
    have e1 := congrArg List.length h2
    rw [List.length_append] at e1
    have e2 := chB_len (X := X) (q + 1) q
    unfold chQ at e1
    omega
  cases st with
  | none =>
    dsimp only [oN] at h2 ⊢
    rw [List.append_nil] at h2
    subst h2
    repeat wtm_at "s"
    exact h
  | some p =>
    obtain ⟨rfl, hp⟩ := h1 p rfl
    have hx : X[p]? = some X[p] := List.getElem?_eq_getElem hp
    generalize X[p] = x at hx
    obtain ⟨a, b⟩ := x
    dsimp only [oN] at h2 ⊢
    repeat wtm_at "s"
    refine ite_T rfl ?_
    repeat wtm_at "s"
    refine ⟨_, by rw [hv]; exact ix_nat (k := p) (by rw [List.getElem?_map, hx]; rfl), ?_⟩
    unfold sD
    repeat wtm_at "s"
    refine app_ex rfl (by rw [iL, List.length_map]; omega) ?_
    repeat wtm_at "s"
    cases b with
    | none =>
      rw [chQ_none hx] at h2
      refine ⟨0, by omega, none, acc ++ [a], some (.sh (.int a)), fun p hp => (by cases hp), by rw [List.append_nil]; exact h2, ?_⟩
      rw [iL, iL, List.map_append]; rfl
    | some b =>
      rw [chQ_some hX hx] at h2
      have hb := hX p _ hx b rfl
      refine ⟨b + 1, by omega, some b, acc ++ [a], some (.sh (.int a)), fun p hp => (by cases hp; exact ⟨rfl, by omega⟩), by rw [List.append_assoc]; exact h2, ?_⟩
      rw [iL, iL, List.map_append]; rfl
theorem posJ_succ {X : List (Nat × Option Nat)} {k j : Nat} {x : Nat × Option Nat} (h : X[k]? = some x) : posJ X (k + 1) j = posJ X k j ++ if x.1 = j then [k] else [] := by
  have hxd : X.getD k (0, none) = x := by rw [List.getD_eq_getElem?_getD, h]; rfl
  unfold posJ
  rw [List.range_succ, List.filter_append]
  congr 1
  by_cases c : x.1 = j
  · rw [List.filter_cons_of_pos (by rw [hxd]; exact decide_eq_true c), if_pos c]; rfl
  · rw [List.filter_cons_of_neg (by rw [hxd]; simp [c]), if_neg c]; rfl
theorem posJ_le {X : List (Nat × Option Nat)} {k j : Nat} : ∀ q ∈ posJ X k j, q < k := fun q h => List.mem_range.mp (List.mem_filter.mp h).1
theorem chains_len {X : List (Nat × Option Nat)} {B : Nat} : ∀ l : List Nat, (∀ q ∈ l, q < B) → (l.flatMap (chQ X)).length ≤ l.length * B
  | [], _ => Nat.zero_le _
  | q :: l, h => by
    have h1 := chains_len (X := X) l fun x hx => h x (List.mem_cons_of_mem _ hx)
    have h2 := chB_len (X := X) (q + 1) q
    have h3 := h q List.mem_cons_self
    rw [List.flatMap_cons, List.length_append, List.length_cons, Nat.succ_mul]
    unfold chQ
    unfold chQ at h1
    omega
theorem posJ_len {X : List (Nat × Option Nat)} {k j : Nat} : (posJ X k j).length ≤ k := by
  have := List.length_filter_le (fun q => decide ((X.getD q (0, none)).1 = j)) (List.range k)
  rw [List.length_range] at this
  exact this
def dueL (X : List (Nat × Option Nat)) (j : Nat) : List Nat := (srtW ((needL X j).map fun (x : Nat) => (x : Int))).map Int.toNat
theorem iL_ints (l : List Nat) : iL l = (l.map fun (x : Nat) => (x : Int)).map D.int := by unfold iL; rw [List.map_map]; rfl
theorem due_ints (X : List (Nat × Option Nat)) (j : Nat) : (srtW ((needL X j).map fun (x : Nat) => (x : Int))).map D.int = iL (dueL X j) := by
  rw [iL_ints]
  unfold dueL
  rw [List.map_map, List.map_map]
  refine List.map_congr_left fun z hz => ?_
  obtain ⟨n, _, rfl⟩ := List.mem_map.mp (mem_srtU.mp hz)
  rfl
theorem due_mem {X : List (Nat × Option Nat)} {j a : Nat} : a ∈ dueL X j ↔ a ∈ needL X j := by
  unfold dueL
  rw [List.mem_map]
  constructor
  · rintro ⟨z, hz, e⟩
    obtain ⟨n, hn, rfl⟩ := List.mem_map.mp (mem_srtU.mp hz)
    rw [← e]
    exact hn
  · intro h
    exact ⟨(a : Int), mem_srtU.mpr (List.mem_map.mpr ⟨a, h, rfl⟩), rfl⟩
theorem rise_nodup {l : List Int} (h : Rise ltW l) : l.Nodup := List.Pairwise.imp (fun {a b} h e => by
  have := of_decide_eq_true (show decide (a < b) = true from h)
  omega) h
theorem few_ints {l : List Nat} {n : Nat} (h : ∀ a ∈ l, a < n) : (srtW (l.map fun (x : Nat) => (x : Int))).length ≤ n := by
  have := nodup_le (L := (List.range n).map fun (x : Nat) => (x : Int)) (rise_nodup (asc_srtU ltW_tr ltW_tot (xs := l.map fun (x : Nat) => (x : Int)))) fun z hz => by
    obtain ⟨a, ha, rfl⟩ := List.mem_map.mp (mem_srtU.mp hz)
    exact List.mem_map.mpr ⟨a, List.mem_range.mpr (h a ha), rfl⟩
  rw [List.length_map, List.length_range] at this
  exact this
theorem need_lt {X : List (Nat × Option Nat)} {n j : Nat} (hn : ∀ (q : Nat) (x : Nat × Option Nat), X[q]? = some x → x.1 < n) (hj : j < n) : ∀ a ∈ needL X j, a < n := fun a h => by
  rcases List.mem_cons.mp h with rfl | z
  · exact hj
  · obtain ⟨q, _, h2⟩ := List.mem_flatMap.mp z
    exact chB_mem hn _ _ a h2
section
variable {wd : Nat} {sg : List Nat} {bs : List (List Tkn)}
theorem needed_wp {w x0 x1 : W} {j : Nat} {Q : W → Env' → Prop} (hv : w.view = .lst (bD bs)) (hs : sndBs wd 0 bs) (hok : ∀ b ∈ bs, ∀ t ∈ b, t.ok sg) (hl : tots bs ≤ 2400) (hc : bs.length ≤ 10) (hm : ∀ b ∈ bs, tot b ≤ 1000) (hj : j < bs.length)
    (h : Q (.ml (iL (dueL (srcs 0 0 bs) j))) [some x0, some x1, some (.sh (.lst (bD bs))), some (.sh (.int (j : Nat)))]) : Wp (F_needed [some x0, some x1, some w, some (.sh (.int (j : Nat)))]) Q := by
  obtain ⟨hX, hn⟩ := srcs_back hs hok
  have hXl := srcs_len bs 0 0
  unfold F_needed
  with_reducible refine w_fn.mpr ?_
  refine ⟨rfl, ?_⟩
  repeat wtm_at "s"
  refine sources_wp (wd := wd) (sg := sg) hv hs (by omega) (by omega) hm ?_
  generalize hXe : srcs 0 0 bs = X at hX hn hXl h ⊢
  repeat wtm_at "s"
  refine wp_lc (fun k acc e => acc = iL (posJ X k j) ∧ e = [some x0, some x1, some (.sh (.lst (bD bs))), some (.sh (.int (j : Nat))), some (.sh (.lst (X.map sD))), none, none, none, none]) ⟨rfl, rfl⟩ ?_ ?_
  · rintro k d acc e hk ⟨rfl, rfl⟩
    obtain ⟨x, hx, rfl⟩ := enm_get hk
    rw [posJ_succ hx]
    obtain ⟨a, b⟩ := x
    refine ⟨_, rfl, ?_⟩
    repeat wtm_at "s"
    by_cases c : a = j
    · refine ite_T (by rw [c]; simp) ?_
      repeat wtm_at "s"
      refine ⟨?_, rfl⟩
      rw [if_pos c, iL, iL, List.map_append]; rfl
    · refine ite_F (by simp; omega) ?_
      refine ⟨?_, rfl⟩
      rw [if_neg c, List.append_nil]
  · rintro xs e ⟨rfl, rfl⟩
    rw [enumF_len, List.length_map]
    refine ⟨Nat.le_of_ble_eq_true rfl, ?_⟩
    dsimp only [rstE, wipE, List.getElem?_cons_succ, List.getElem?_cons_zero, Option.join, Option.bind_some, id_eq, List.set_cons_zero, List.set_cons_succ]
    repeat wtm_at "s"
    refine wp_goA_map (xs := posJ X X.length j) (enc := fun n : Nat => D.int (n : Int)) (fun q => iL (chQ X q)) (fun q hq => ⟨_, rfl, ?_⟩) ?_
    · refine w_inA.mpr ?_
      repeat wtm_at "s"
      refine behind_wp (v := .sh (.lst (X.map sD))) (X := X) rfl hX (posJ_le q hq) (by omega) ?_
      repeat wtm_at "s"
      refine wp_goA_map (xs := chQ X q) (enc := fun n : Nat => D.int (n : Int)) (fun a => [D.int (a : Int)]) (fun a ha => ⟨_, rfl, ?_⟩) ?_
      · refine w_oneA.mpr ?_
        repeat wtm_at "s"
        exact ⟨rfl, rfl⟩
      · refine ⟨?_, rfl⟩
        rw [iL]
        generalize chQ X q = l
        induction l with
        | nil => rfl
        | cons a l ih => rw [List.flatMap_cons, List.map_cons, ← ih]; rfl
    · have e1 : (posJ X X.length j).flatMap (fun q => iL (chQ X q)) = iL ((posJ X X.length j).flatMap (chQ X)) := by
        unfold iL
        rw [List.map_flatMap]
      rw [e1]
      refine ⟨.ml (iL (dueL X j)), ?_, h⟩
      have few : (srtW (((posJ X X.length j).flatMap (chQ X)).map fun (x : Nat) => (x : Int))).length ≤ 19 :=
        Nat.le_trans (few_ints (n := bs.length) fun a ha => need_lt hn hj a (List.mem_cons_of_mem _ ha)) (by omega)
      rw [← due_ints, iL_ints]
      show (asIs _).bind _ = _
      rw [asIs_map, Option.bind_some, if_pos few]
      rfl
def curD (X : List (Nat × Option Nat)) : Option Nat → D × D
  | none => (.non, .non)
  | some p => (.int ((X.getD p (0, none)).1 : Nat), oN (X.getD p (0, none)).2)
theorem l_needed_wp {w : W} {j : Nat} {Q : W → Env' → Prop} (hv : w.view = .lst (bD bs)) (hs : sndBs wd 0 bs) (hok : ∀ b ∈ bs, ∀ t ∈ b, t.ok sg) (hl : tots bs ≤ 2400) (hc : bs.length ≤ 10) (hm : ∀ b ∈ bs, tot b ≤ 1000) (hj : j < bs.length)
    (h : Q (.ml (iL (dueL (srcs 0 0 bs) j))) [some w, some (.sh (.int (j : Nat)))]) : Wp (F_l_needed [some w, some (.sh (.int (j : Nat)))]) Q := by
  obtain ⟨hX, hn⟩ := srcs_back hs hok
  have hXl := srcs_len bs 0 0
  unfold F_l_needed
  with_reducible refine w_fn.mpr ?_
  refine ⟨rfl, ?_⟩
  repeat wtm_at "s"
  refine backs_wp (wd := wd) (sg := sg) hv hs (by omega) (by omega) hm ?_
  generalize hXe : srcs 0 0 bs = X at hX hn hXl h ⊢
  have hxl : (X.map sD).length ≤ 2400 := by rw [List.length_map]; omega
  repeat wtm_at "s"
  rw [List.length_map, Int.toNat_natCast]
  refine wp_for _ (fun k e => ∃ (x4 x5 x6 : Option W), e = [some w, some (.sh (.int (j : Nat))), some (.ml (X.map sD)), some (.ml (iL (j :: (posJ X k j).flatMap (chQ X)))), x4, x5, x6]) ⟨_, _, _, rfl⟩ ?_ ?_
  · rintro k d e hk ⟨x4, x5, x6, rfl⟩
    obtain ⟨hk2, rfl⟩ := rng_get hk
    have hx : X[k]? = some X[k] := List.getElem?_eq_getElem hk2
    have hxd : X.getD k (0, none) = X[k] := by rw [List.getD_eq_getElem?_getD, hx]; rfl
    have hix : ixD (.lst (X.map sD)) (.int (k : Int)) = some (.sh (sD X[k])) := ix_nat (k := k) (by rw [List.getElem?_map, hx]; rfl)
    have hb : ((posJ X k j).flatMap (chQ X)).length ≤ 5760000 := by
      have h1 := chains_len (X := X) (B := 2400) (posJ X k j) fun q hq => by
        have := posJ_le q hq
        omega
      have h2 := posJ_len (X := X) (k := k) (j := j)
      omega
    have hb2 := chB_len (X := X) (k + 1) k
    rw [posJ_succ hx]
    generalize X[k] = x at hx hxd hix
    obtain ⟨a, b⟩ := x
    rw [show sD (a, b) = D.tup [.int (a : Int), oN b] from rfl] at hix
    refine ⟨_, rfl, ?_⟩
    repeat wtm_at "s"
    refine ⟨_, hix, ?_⟩
    repeat wtm_at "s"
    rw [List.flatMap_append]
    generalize (posJ X k j).flatMap (chQ X) = base at hb ⊢
    by_cases c : a = j
    · rw [if_pos c, List.flatMap_cons, List.flatMap_nil, List.append_nil]
      refine wp_whil (fun m e => ∃ (st : Option Nat) (acc : List Nat), (∀ p, st = some p → m = p + 1 ∧ p < X.length) ∧ acc ++ (match st with | some p => chQ X p | none => []) = j :: (base ++ chQ X k) ∧ e = [some w, some (.sh (.int (j : Nat))), some (.ml (X.map sD)), some (.ml (iL acc)), some (.sh (.int (k : Nat))), some (.sh (curD X st).1), some (.sh (curD X st).2)]) (k + 1) (by omega) ⟨some k, j :: base, fun p hp => by cases hp; exact ⟨rfl, hk2⟩, rfl, ?_⟩ ?_
      · show _ = [some w, some (.sh (.int (j : Nat))), some (.ml (X.map sD)), some (.ml (iL (j :: base))), some (.sh (.int (k : Nat))), some (.sh (.int ((X.getD k (0, none)).1 : Nat))), some (.sh (oN (X.getD k (0, none)).2))]
        rw [hxd]
      · rintro m e ⟨st, acc, h1, h2, rfl⟩
        have hal : acc.length ≤ 5780000 := by
          have e1 := congrArg List.length h2
          rw [List.length_append, List.length_cons, List.length_append] at e1
          unfold chQ at e1
          omega
        cases st with
        | none =>
          dsimp only [curD] at h2 ⊢
          rw [List.append_nil] at h2
          subst h2
          repeat wtm_at "s"
          exact ⟨_, _, _, rfl⟩
        | some p =>
          obtain ⟨rfl, hp⟩ := h1 p rfl
          have hy : X[p]? = some X[p] := List.getElem?_eq_getElem hp
          have hyd : X.getD p (0, none) = X[p] := by rw [List.getD_eq_getElem?_getD, hy]; rfl
          dsimp only [curD] at h2 ⊢
          rw [hyd]
          generalize X[p] = y at hy
          obtain ⟨a2, b2⟩ := y
          dsimp only at h2 ⊢
          repeat wtm_at "s"
          refine ite_T rfl ?_
          repeat wtm_at "s"
          refine ⟨_, hix, ?_⟩
          repeat wtm_at "s"
          refine ite_T (by rw [c]; simp) ?_
          repeat wtm_at "s"
          refine app_ex rfl (by rw [iL, List.length_map]; omega) ?_
          repeat wtm_at "s"
          cases b2 with
          | none =>
            dsimp only [oN]
            refine ite_F rfl ?_
            repeat wtm_at "s"
            rw [chQ_none hy] at h2
            refine ⟨0, by omega, none, acc ++ [a2], fun p hp => (by cases hp), by rw [List.append_nil]; exact h2, ?_⟩
            rw [iL, iL, List.map_append]; rfl
          | some b2 =>
            have hb2 := hX p _ hy b2 rfl
            have hz : X[b2]? = some X[b2] := List.getElem?_eq_getElem (by omega)
            have hzd : X.getD b2 (0, none) = X[b2] := by rw [List.getD_eq_getElem?_getD, hz]; rfl
            have hiz : ixD (.lst (X.map sD)) (.int (b2 : Int)) = some (.sh (D.tup [.int ((X[b2]).1 : Int), oN (X[b2]).2])) := ix_nat (k := b2) (by rw [List.getElem?_map, hz]; rfl)
            dsimp only [oN]
            refine ite_T rfl ?_
            repeat wtm_at "s"
            refine ⟨_, hiz, ?_⟩
            repeat wtm_at "s"
            rw [chQ_some hX hy] at h2
            refine ⟨b2 + 1, by omega, some b2, acc ++ [a2], fun p hp => (by cases hp; exact ⟨rfl, by omega⟩), by rw [List.append_assoc]; exact h2, ?_⟩
            dsimp only [curD]
            rw [hzd, iL, iL, List.map_append]; rfl
    · rw [if_neg c, List.flatMap_nil, List.append_nil]
      refine wp_whil (fun m e => e = [some w, some (.sh (.int (j : Nat))), some (.ml (X.map sD)), some (.ml (iL (j :: base))), some (.sh (.int (k : Nat))), some (.sh (.int (a : Int))), some (.sh (oN b))]) 0 (by decide) rfl ?_
      rintro m e rfl
      repeat wtm_at "s"
      refine ite_T rfl ?_
      repeat wtm_at "s"
      refine ⟨_, hix, ?_⟩
      repeat wtm_at "s"
      refine ite_F (by simp; omega) ?_
      repeat wtm_at "s"
      exact ⟨_, _, _, rfl⟩
  · rintro e ⟨x4, x5, x6, rfl⟩
    rw [rng_len']
    repeat wtm_at "s"
    refine ⟨.ml (iL (dueL X j)), ?_, h⟩
    have few : (srtW ((needL X j).map fun (x : Nat) => (x : Int))).length + 1 < scanBound :=
      Nat.lt_of_le_of_lt (Nat.succ_le_succ (Nat.le_trans (few_ints (n := bs.length) fun a ha => need_lt hn hj a ha) hc)) (by decide)
    rw [← due_ints, show iL (j :: (posJ X X.length j).flatMap (chQ X)) = iL (needL X j) from rfl, iL_ints]
    show (asIs _).bind _ = _
    rw [asIs_map, Option.bind_some, if_pos few]
end
theorem SIGNS_12 : ∀ s ∈ SIGNS, (cutD [s, s, s, s, s, s].flatten none (some (12 : Int))).length = 12 ∧ ∀ c ∈ cutD [s, s, s, s, s, s].flatten none (some (12 : Int)), c ∈ s := by decide
theorem SIGNS_6 : ∀ s ∈ SIGNS, mulD (.str s) (.int 6) = some (.sh (.str [s, s, s, s, s, s].flatten)) := by
  intro s hs
  simp only [SIGNS, List.mem_cons, List.not_mem_nil, or_false] at hs
  rcases hs with rfl | rfl | rfl | rfl | rfl | rfl | rfl <;> rfl
theorem whl_len {wd : Nat} : ∀ {bs : List (List Tkn)} {n : Nat} (A : List Nat), sndBs wd n bs → (whl A bs).flatten.length = tots bs
  | [], _, _, _ => rfl
  | b :: r, n, A, h => by rw [whl, List.flatten_cons, List.length_append, wrB_len h.1, whl_len _ h.2, tots_cons]
theorem eqS_str7 (s : List Nat) : eqD 57 (.str s) (.str s) = some true := by show some (s == s) = _; simp
theorem eqS_int7 (i : Int) : eqD 57 (.int i) (.int i) = some true := by show some (i == i) = _; simp
theorem eq_tkn8 (t : Tkn) : eqD 58 t.d t.d = some true := by
  cases t <;> (show eqL (eqD 57) _ _ = some true) <;> refine eqL_refl fun x hx => ?_ <;> simp only [List.mem_cons, List.not_mem_nil, or_false] at hx
  · rcases hx with rfl | rfl <;> exact eqS_str7 _
  · rcases hx with rfl | rfl <;> exact eqS_str7 _
  · rcases hx with rfl | rfl | rfl
    · exact eqS_str7 _
    · exact eqS_int7 _
    · exact eqS_int7 _
  · rcases hx with rfl | rfl | rfl
    · exact eqS_str7 _
    · exact eqS_int7 _
    · exact eqS_int7 _
  · rw [hx]; exact eqS_str7 _
theorem eq_bs (bs : List (List Tkn)) : eqD 60 (.lst (bD bs)) (.lst (bD bs)) = some true := eq_lst fun x hx => by
  obtain ⟨b, _, rfl⟩ := List.mem_map.mp hx
  show (if (b.map Tkn.d).length = (b.map Tkn.d).length then eqL (eqD 58) (b.map Tkn.d) (b.map Tkn.d) else some false) = some true
  rw [if_pos rfl]
  refine eqL_refl fun y hy => ?_
  obtain ⟨t, _, rfl⟩ := List.mem_map.mp hy
  exact eq_tkn8 t
theorem repr_iL {l : List Nat} (h : ∀ n ∈ l, n ≤ 40) (hl : l.length ≤ 10000) : (reprD (.lst (iL l))).isSome = true :=
  repr_list (f := fun n : Nat => .int (n : Int)) (g := fun n : Nat => .int (n : Int)) (n := 41) (fun _ => rfl) l (fun n q => by
    obtain ⟨a, b, c⟩ := int_fine (h n q)
    exact ⟨a, rfl, Nat.le_of_ble_eq_true rfl, b, c⟩) (by decide) hl
theorem rstO {e e' : Env'} {i : Nat} {o : Option W} (h : e[i]? = some o) : rstE e e' [i] = e'.set i o := by
  show (e'.set i (e[i]?).join) = _
  rw [h]; rfl
theorem gd_str {l : List (List Nat)} {j : Nat} (h : j < l.length) : ixD (.lst (l.map .str)) (.int (j : Int)) = some (.sh (.str (l.getD j []))) := by
  refine ix_nat (k := j) ?_
  rw [List.getElem?_map, List.getElem?_eq_getElem h, List.getD_eq_getElem?_getD, List.getElem?_eq_getElem h]
  rfl
theorem whl_cnt : ∀ (bs : List (List Tkn)) (A : List Nat), (whl A bs).length = bs.length
  | [], _ => rfl
  | b :: bs, A => by rw [whl, List.length_cons, whl_cnt bs, List.length_cons]
theorem law_true : ∀ ns : List Int, ns.length ≤ 63 → ∃ e, F_law [some (.sh (.scr ns))] = .ok (.sh (.bl true)) e := by
  intro ns hn
  have : Wp (F_law [some (.sh (.scr ns))]) fun w _ => w = .sh (.bl true) := by
    unfold F_law
    with_reducible refine w_fn.mpr ?_
    refine ⟨rfl, ?_⟩
    repeat wtm_at "s"
    refine bag_wp hn fun g hg => ?_
    repeat wtm_at "s"
    refine wp_for _ (fun k e => ∃ (g : Bag) (s : Option W) (x2 x3 x4 x5 x6 x7 x8 x9 x10 x11 x12 x13 : Option W), g.Ok ∧ e = [s, some g.w, x2, x3, x4, x5, x6, x7, x8, x9, x10, x11, x12, x13, none]) ?_ ?_ ?_
    · exact ⟨g, _, _, _, _, _, _, _, _, _, _, _, _, _, hg, rfl⟩
    · rintro k d e hk ⟨g, s, x2, x3, x4, x5, x6, x7, x8, x9, x10, x11, x12, x13, hg, rfl⟩
      obtain ⟨hk2, rfl⟩ := rng_get hk
      refine ⟨_, rfl, ?_⟩
      repeat wtm_at "s"
      refine signs_wp hg fun sg g1 hsg hg1 => ?_
      have sg1 := SIGNS_sg sg hsg
      obtain ⟨sg3, sg4⟩ := SIGNS_lt sg hsg
      have sg2 : 2 ≤ sg.length ∧ sg.length ≤ 40 := by
        simp only [sgB, Bool.and_eq_true, decide_eq_true_eq] at sg1
        omega
      repeat wtm_at "s"
      refine take_n (m := 2) hg1 (by decide) (by decide) fun way g2 w2 hg2 => ?_
      obtain ⟨most, m1, m2, em⟩ : ∃ most : Nat, 1 ≤ most ∧ most ≤ 12 ∧ ixD (.lst [.int 3, .int 12]) (.int (way : Int)) = some (.sh (.int (most : Int))) := by
        have : way = 0 ∨ way = 1 := by omega
        rcases this with rfl | rfl
        · exact ⟨3, by decide, by decide, rfl⟩
        · exact ⟨12, by decide, by decide, rfl⟩
      repeat wtm_at "s"
      refine ⟨_, em, ?_⟩
      repeat wtm_at "s"
      refine take_n (m := most) hg2 (by omega) (by omega) fun r g3 r1 hg3 => ?_
      repeat wtm_at "s"
      rw [show (1 : Int) + (r : Int) = ((1 + r : Nat) : Int) by omega]
      refine take_n (m := 6) hg3 (by decide) (by decide) fun r2 g4 r3 hg4 => ?_
      repeat wtm_at "s"
      rw [show (1 : Int) + (r2 : Int) = ((1 + r2 : Nat) : Int) by omega]
      refine blocks_wp hg4 (by omega) (by omega) (by omega) (by omega) fun bs g5 b1 b2 b3 b4 hg5 => ?_
      refine ⟨Nat.le_of_ble_eq_true rfl, ?_⟩
      refine wp_cut (fun e' => ∃ (wd : Nat) (bs : List (List Tkn)) (w : W), 1 ≤ wd ∧ wd ≤ 12 ∧ 1 ≤ bs.length ∧ bs.length ≤ 10 ∧ sndBs wd 0 bs ∧ (∀ b ∈ bs, ∀ t ∈ b, t.ok sg) ∧ (∀ b ∈ bs, b.length ≤ 10 ∧ tot b ≤ 240) ∧ w.view = .lst (bD bs) ∧ e' = [s, some g5.w, some (.sh (.int k)), some (.sh (.str sg)), some (.sh (.int wd)), some w, x6, x7, x8, x9, x10, x11, x12, x13, none]) ?_ ?_
      · repeat wtm_at "s"
        refine ite_b (fun q => ?_) (fun q => ?_)
        · obtain ⟨t1, t2⟩ := SIGNS_12 sg hsg
          repeat wtm_at "s"
          refine ⟨_, SIGNS_6 sg hsg, ?_⟩
          repeat wtm_at "s"
          generalize cutD [sg, sg, sg, sg, sg, sg].flatten none (some (12 : Int)) = t at t1 t2 ⊢
          repeat wtm_at "s"
          refine ⟨rfl, 12, [[.text t], List.replicate 6 (.copy 12 40), List.replicate 6 (.copy 12 40), List.replicate 6 (.copy 12 40)], _, by omega, by omega, by simp, by simp, ?_, ?_, ?_, ?_, rfl⟩
          · simp [sndBs, sndB, kpB, kpt, okT, Tkn.sz, t1, List.replicate]
          · intro b q t' q2
            simp only [List.mem_cons, List.not_mem_nil, or_false] at q
            rcases q with rfl | rfl | rfl | rfl
            · rw [List.mem_singleton.mp q2]; exact ⟨by omega, by omega, t2⟩
            · rw [List.eq_of_mem_replicate q2]; exact ⟨by decide, by decide, by decide, by decide⟩
            · rw [List.eq_of_mem_replicate q2]; exact ⟨by decide, by decide, by decide, by decide⟩
            · rw [List.eq_of_mem_replicate q2]; exact ⟨by decide, by decide, by decide, by decide⟩
          · intro b q
            simp only [List.mem_cons, List.not_mem_nil, or_false] at q
            rcases q with rfl | rfl | rfl | rfl
            · refine ⟨by simp, ?_⟩
              rw [tot_one]; show t.length ≤ 240; omega
            · exact ⟨by simp, by simp [tot, Tkn.sz]⟩
            · exact ⟨by simp, by simp [tot, Tkn.sz]⟩
            · exact ⟨by simp, by simp [tot, Tkn.sz]⟩
          · rfl
        · repeat wtm_at "s"
          exact ⟨rfl, 1 + r, bs, _, by omega, by omega, by omega, by omega, b2, b3, fun b q => by have := b4 b q; omega, rfl, rfl⟩
      · rintro e' ⟨wd, bs, w, w1, w2, c1, c2, c3, c4, c5, hw, rfl⟩
        have htots : tots bs ≤ 2400 := by
          have : ∀ (bs : List (List Tkn)), (∀ b ∈ bs, b.length ≤ 10 ∧ tot b ≤ 240) → tots bs ≤ 240 * bs.length := fun bs => by
            induction bs with
            | nil => intro _; exact Nat.le_refl _
            | cons b bs ih =>
              intro h
              have h1 := ih fun c q => h c (List.mem_cons_of_mem _ q)
              have h2 := (h b List.mem_cons_self).2
              rw [tots_cons, List.length_cons]; omega
          have := this bs c5
          omega
        have hwl := whl_len (n := 0) [] c3
        have htb : ∀ b ∈ bs, tot b ≤ 1000 := fun b q => by have := (c5 b q).2; omega
        repeat wtm_at "s"
        rw [hw]
        refine ⟨_, rfl, ?_⟩
        refine wp_lc_map (fun b : List Tkn => .lst (b.map Tkn.d)) ?_ ?_
        · intro b q
          have hb := (c5 b q).1
          refine ⟨_, rfl, ?_⟩
          have hb2 : (b.map Tkn.d).length ≤ 1000 := by rw [List.length_map]; omega
          repeat wtm_at "s"
          exact ⟨rfl, rfl⟩
        rw [show (bs.map fun b : List Tkn => D.lst (b.map Tkn.d)) = bD bs from rfl]
        refine ⟨Nat.le_of_ble_eq_true rfl, ?_⟩
        rw [rst1 rfl]
        repeat wtm_at "s"
        refine block_texts_wp (bs := bs) rfl sg1 w1 w2 c4 c3 (by omega) ?_
        have hbl : (bD bs).length ≤ 1000 := by rw [bD, List.length_map]; omega
        repeat wtm_at "s"
        rw [bD, List.length_map, Int.toNat_natCast]
        obtain ⟨hX, hn⟩ := srcs_back c3 c4
        refine wp_for _ (fun j e => ∃ (w u v : W) (x8 x9 x10 x11 x12 x13 : Option W), w.view = .lst (bD bs) ∧ u.view = .lst (bD bs) ∧ v.view = .lst ((whl [] bs).map .str) ∧ e = [s, some g5.w, some (.sh (.int k)), some (.sh (.str sg)), some (.sh (.int wd)), some w, some u, some v, x8, x9, x10, x11, x12, x13, none]) ?_ ?_ ?_
        · exact ⟨_, _, _, _, _, _, _, _, _, rfl, rfl, rfl, rfl⟩
        · rintro j d3 e hj0 ⟨w, u, v, x8, x9, x10, x11, x12, x13, hw, hu, hv, rfl⟩
          obtain ⟨hj, rfl⟩ := rng_get hj0
          clear hj0
          have hdl : ∀ a ∈ dueL (srcs 0 0 bs) j, a < bs.length := fun a ha => need_lt hn hj a (due_mem.mp ha)
          have hdn : (iL (dueL (srcs 0 0 bs) j)).length ≤ 10 := by
            rw [iL, List.length_map]
            unfold dueL
            rw [List.length_map]
            exact Nat.le_trans (few_ints (n := bs.length) fun a ha => need_lt hn hj a ha) c2
          refine ⟨_, rfl, ?_⟩
          repeat wtm_at "s"
          refine l_needed_wp (wd := wd) (sg := sg) (bs := bs) hw c3 c4 (by omega) (by omega) htb hj ?_
          have ed := eq_iL (dueL (srcs 0 0 bs) j)
          have rd := repr_iL (l := dueL (srcs 0 0 bs) j) (fun n q => by have := hdl n q; omega) (by rw [iL, List.length_map] at hdn; omega)
          have hsame : ∀ gone : List Nat, (∀ a ∈ gone, a ∉ dueL (srcs 0 0 bs) j) → (spo gone 0 [] bs).getD j [] = (whl [] bs).getD j [] := fun gone h => spo_same c3 c4 fun a ha q => h a q (due_mem.mpr ha)
          have hhurt : ∀ a ∈ dueL (srcs 0 0 bs) j, (whl [] bs).getD j [] ≠ [] → 63 ∈ (spo [a] 0 [] bs).getD j [] := fun a ha h => spo_hurt c3 c4 (due_mem.mp ha) h
          generalize hdue : dueL (srcs 0 0 bs) j = due at hdl hdn ed rd hsame hhurt ⊢
          repeat wtm_at "s"
          refine wp_for _ (fun k4 e => ∃ (w u v y : W) (x10 x11 : Option W), w.view = .lst (bD bs) ∧ u.view = .lst (bD bs) ∧ v.view = .lst ((whl [] bs).map .str) ∧ y.view = .lst (iL due) ∧ e = [s, some g5.w, some (.sh (.int k)), some (.sh (.str sg)), some (.sh (.int wd)), some w, some u, some v, some (.sh (.int (j : Nat))), some y, x10, x11, x12, x13, none]) ?_ ?_ ?_
          · exact ⟨w, u, v, _, _, _, hw, hu, hv, rfl, rfl⟩
          · rintro k4 d4 e hk4 ⟨w, u, v, y, x10, x11, hw, hu, hv, hy, rfl⟩
            refine ⟨_, rfl, ?_⟩
            repeat wtm_at "s"
            refine needed_wp (wd := wd) (sg := sg) (bs := bs) hu c3 c4 (by omega) (by omega) htb hj ?_
            rw [hdue]
            refine ⟨Nat.le_of_ble_eq_true rfl, ?_⟩
            repeat wtm_at "s"
            refine alike_wp rfl hy ed rd ?_
            repeat wtm_at "s"
            refine ⟨.sh (.bl false), by rw [hw, neW, eq_bs]; rfl, ?_⟩
            repeat wtm_at "s"
            refine app_ex rfl (by omega) ?_
            repeat wtm_at "s"
            exact ⟨w, _, v, y, _, _, hw, rfl, hv, hy, rfl⟩
          · rintro e ⟨w, u, v, y, x10, x11, hw, hu, hv, hy, rfl⟩
            repeat wtm_at "s"
            rw [hw]
            repeat wtm_at "s"
            rw [bD, List.length_map, Int.toNat_natCast]
            refine wp_lc (fun i acc e => acc = iL ((List.range i).filter fun a => decide (a ∉ due)) ∧ e = [s, some g5.w, some (.sh (.int k)), some (.sh (.str sg)), some (.sh (.int wd)), some w, some u, some v, some (.sh (.int (j : Nat))), some y, x10, x11, x12, none, none]) ⟨rfl, rfl⟩ ?_ ?_
            · rintro i d acc e hi ⟨rfl, rfl⟩
              obtain ⟨hi2, rfl⟩ := rng_get hi
              refine ⟨_, rfl, ?_⟩
              repeat wtm_at "s"
              refine ⟨_, by rw [hy]; show (inD _ _).map _ = _; rw [in_iL]; rfl, ?_⟩
              repeat wtm_at "s"
              by_cases q : i ∈ due
              · refine ite_F (by simpa using q) ?_
                refine ⟨?_, rfl⟩
                rw [List.range_succ, List.filter_append, List.filter_cons_of_neg (by simpa using q)]
                simp
              · refine ite_T (by simpa using q) ?_
                repeat wtm_at "s"
                refine ⟨?_, rfl⟩
                rw [List.range_succ, List.filter_append, List.filter_cons_of_pos (by simpa using q), iL, iL, List.map_append]
                rfl
            · rintro xs e ⟨rfl, rfl⟩
              rw [rng_len']
              have ho : ∀ a ∈ (List.range bs.length).filter (fun a => decide (a ∉ due)), a ∉ due := fun a ha => of_decide_eq_true (List.mem_filter.mp ha).2
              generalize (List.range bs.length).filter (fun a => decide (a ∉ due)) = others at ho ⊢
              refine ⟨Nat.le_of_ble_eq_true rfl, ?_⟩
              rw [rstO (o := x13) rfl]
              dsimp only [wipE, List.set_cons_zero, List.set_cons_succ]
              repeat wtm_at "s"
              refine spoilt_wp (w := u) (u := .ml (iL others)) (bs := bs) (gone := others) hu rfl sg1 w1 w2 c4 c3 (by omega) htb (by omega) ?_
              repeat wtm_at "s"
              refine ⟨_, gd_str (by rw [spo_len]; exact hj), ?_⟩
              repeat wtm_at "s"
              refine ⟨_, by rw [hv]; exact gd_str (by rw [whl_cnt]; exact hj), ?_⟩
              rw [hsame others ho]
              repeat wtm_at "s"
              refine ite_F (by simp) ?_
              repeat wtm_at "s"
              rw [hy]
              refine ⟨_, rfl, ?_⟩
              refine wp_for _ (fun i e => ∃ (w u v y : W) (x12 x13 : Option W), w.view = .lst (bD bs) ∧ u.view = .lst (bD bs) ∧ v.view = .lst ((whl [] bs).map .str) ∧ e = [s, some g5.w, some (.sh (.int k)), some (.sh (.str sg)), some (.sh (.int wd)), some w, some u, some v, some (.sh (.int (j : Nat))), some y, x10, x11, x12, x13, none]) ⟨w, u, v, _, _, _, hw, hu, hv, rfl⟩ ?_ ?_
              · rintro i d e hi ⟨w, u, v, y, x12, x13, hw, hu, hv, rfl⟩
                obtain ⟨a, ha, rfl⟩ := map_get hi
                have ham := List.mem_of_getElem? ha
                refine ⟨_, rfl, ?_⟩
                repeat wtm_at "s"
                refine ⟨_, by rw [hv]; exact gd_str (by rw [whl_cnt]; exact hj), ?_⟩
                repeat wtm_at "s"
                by_cases hne : (whl [] bs).getD j [] = []
                · refine ite_F (by rw [hne]; rfl) ?_
                  repeat wtm_at "s"
                  exact ⟨w, u, v, y, _, _, hw, hu, hv, rfl⟩
                · refine ite_T (by simpa using hne) ?_
                  repeat wtm_at "s"
                  refine spoilt_wp (w := u) (u := .sh (.lst [.int (a : Int)])) (bs := bs) (gone := [a]) hu rfl sg1 w1 w2 c4 c3 (by omega) htb (by omega) ?_
                  repeat wtm_at "s"
                  refine ⟨_, gd_str (by rw [spo_len]; exact hj), ?_⟩
                  repeat wtm_at "s"
                  have h63 := hhurt a ham hne
                  refine ite_F (by simpa using h63) ?_
                  repeat wtm_at "s"
                  exact ⟨w, u, v, y, _, _, hw, hu, hv, rfl⟩
              · rintro e ⟨w, u, v, y, x12, x13, hw, hu, hv, rfl⟩
                exact ⟨w, u, v, _, _, _, _, _, _, hw, hu, hv, rfl⟩
        · rintro e ⟨w, u, v, x8, x9, x10, x11, x12, x13, hw, hu, hv, rfl⟩
          exact ⟨g5, _, _, _, _, _, _, _, _, _, _, _, _, _, hg5, rfl⟩
    · rintro e ⟨g, s, x2, x3, x4, x5, x6, x7, x8, x9, x10, x11, x12, x13, hg, rfl⟩
      repeat wtm_at "s"
  obtain ⟨a, e, h1, h2⟩ := this.get
  subst h2
  exact ⟨e, h1⟩
end Wc.K26
namespace Wc.K26
open PySem PySem.Spec PyProof.Rows L2
theorem all_mk {l : PySem.W.OpenLaw} {w : World} {K : PySem.W.Frag} {h : Heap} {mg : Str → Option Value} {fa : Addr}
    {C0 : Addr}
    {f0 : Addr} {od0 an0 : Option Addr} {sl0 : Array (Option Value)} {oc0 kV0 dc0 pm0 cd0 ct0 : Value}
    {f1 : Addr} {od1 an1 : Option Addr} {sl1 : Array (Option Value)} {oc1 kV1 dc1 pm1 cd1 ct1 : Value}
    {f2 : Addr} {od2 an2 : Option Addr} {sl2 : Array (Option Value)} {oc2 kV2 dc2 pm2 cd2 ct2 : Value}
    {f3 : Addr} {od3 an3 : Option Addr} {sl3 : Array (Option Value)} {oc3 kV3 dc3 pm3 cd3 ct3 : Value}
    {f4 : Addr} {od4 an4 : Option Addr} {sl4 : Array (Option Value)} {oc4 kV4 dc4 pm4 cd4 ct4 : Value}
    {f5 : Addr} {od5 an5 : Option Addr} {sl5 : Array (Option Value)} {oc5 kV5 dc5 pm5 cd5 ct5 : Value}
    {f6 : Addr} {od6 an6 : Option Addr} {sl6 : Array (Option Value)} {oc6 kV6 dc6 pm6 cd6 ct6 : Value}
    {f7 : Addr} {od7 an7 : Option Addr} {sl7 : Array (Option Value)} {oc7 kV7 dc7 pm7 cd7 ct7 : Value}
    {f8 : Addr} {od8 an8 : Option Addr} {sl8 : Array (Option Value)} {oc8 kV8 dc8 pm8 cd8 ct8 : Value}
    {f9 : Addr} {od9 an9 : Option Addr} {sl9 : Array (Option Value)} {oc9 kV9 dc9 pm9 cd9 ct9 : Value}
    {f10 : Addr} {od10 an10 : Option Addr} {sl10 : Array (Option Value)} {oc10 kV10 dc10 pm10 cd10 ct10 : Value}
    {f11 : Addr} {od11 an11 : Option Addr} {sl11 : Array (Option Value)} {oc11 kV11 dc11 pm11 cd11 ct11 : Value}
    {f12 : Addr} {od12 an12 : Option Addr} {sl12 : Array (Option Value)} {oc12 kV12 dc12 pm12 cd12 ct12 : Value}
    {f13 : Addr} {od13 an13 : Option Addr} {sl13 : Array (Option Value)} {oc13 kV13 dc13 pm13 cd13 ct13 : Value}
    {f14 : Addr} {od14 an14 : Option Addr} {sl14 : Array (Option Value)} {oc14 kV14 dc14 pm14 cd14 ct14 : Value}
    {f15 : Addr} {od15 an15 : Option Addr} {sl15 : Array (Option Value)} {oc15 kV15 dc15 pm15 cd15 ct15 : Value}
    {f16 : Addr} {od16 an16 : Option Addr} {sl16 : Array (Option Value)} {oc16 kV16 dc16 pm16 cd16 ct16 : Value}
    {f17 : Addr} {od17 an17 : Option Addr} {sl17 : Array (Option Value)} {oc17 kV17 dc17 pm17 cd17 ct17 : Value}
    {f18 : Addr} {od18 an18 : Option Addr} {sl18 : Array (Option Value)} {oc18 kV18 dc18 pm18 cd18 ct18 : Value}
    {f19 : Addr} {od19 an19 : Option Addr} {sl19 : Array (Option Value)} {oc19 kV19 dc19 pm19 cd19 ct19 : Value}
    {f20 : Addr} {od20 an20 : Option Addr} {sl20 : Array (Option Value)} {oc20 kV20 dc20 pm20 cd20 ct20 : Value}
    {f21 : Addr} {od21 an21 : Option Addr} {sl21 : Array (Option Value)} {oc21 kV21 dc21 pm21 cd21 ct21 : Value}
    {f22 : Addr} {od22 an22 : Option Addr} {sl22 : Array (Option Value)} {oc22 kV22 dc22 pm22 cd22 ct22 : Value}
    {f23 : Addr} {od23 an23 : Option Addr} {sl23 : Array (Option Value)} {oc23 kV23 dc23 pm23 cd23 ct23 : Value}
    {f24 : Addr} {od24 an24 : Option Addr} {sl24 : Array (Option Value)} {oc24 kV24 dc24 pm24 cd24 ct24 : Value}
    {f25 : Addr} {od25 an25 : Option Addr} {sl25 : Array (Option Value)} {oc25 kV25 dc25 pm25 cd25 ct25 : Value}
    {f26 : Addr} {od26 an26 : Option Addr} {sl26 : Array (Option Value)} {oc26 kV26 dc26 pm26 cd26 ct26 : Value}
    {f27 : Addr} {od27 an27 : Option Addr} {sl27 : Array (Option Value)} {oc27 kV27 dc27 pm27 cd27 ct27 : Value}
    {f28 : Addr} {od28 an28 : Option Addr} {sl28 : Array (Option Value)} {oc28 kV28 dc28 pm28 cd28 ct28 : Value}
    {f29 : Addr} {od29 an29 : Option Addr} {sl29 : Array (Option Value)} {oc29 kV29 dc29 pm29 cd29 ct29 : Value}
    {f30 : Addr} {od30 an30 : Option Addr} {sl30 : Array (Option Value)} {oc30 kV30 dc30 pm30 cd30 ct30 : Value}
    {f31 : Addr} {od31 an31 : Option Addr} {sl31 : Array (Option Value)} {oc31 kV31 dc31 pm31 cd31 ct31 : Value}
    {f32 : Addr} {od32 an32 : Option Addr} {sl32 : Array (Option Value)} {oc32 kV32 dc32 pm32 cd32 ct32 : Value}
    {f33 : Addr} {od33 an33 : Option Addr} {sl33 : Array (Option Value)} {oc33 kV33 dc33 pm33 cd33 ct33 : Value}
    {f34 : Addr} {od34 an34 : Option Addr} {sl34 : Array (Option Value)} {oc34 kV34 dc34 pm34 cd34 ct34 : Value}
    {f35 : Addr} {od35 an35 : Option Addr} {sl35 : Array (Option Value)} {oc35 kV35 dc35 pm35 cd35 ct35 : Value}
    {t_LEAST_SIGNS : Tok}
    {t_LETTERS : Tok}
    {t_MARK : Tok}
    {t_MOST_SIGNS : Tok}
    {t_MOST_SIZE : Tok}
    {t_MOST_WIDTH : Tok} (X : K.In h) (G : h.Ns mainGlobals mg) (hfa : mg "law" = some (.ref fa))
    (aC0 : PySem.W.nsIn K mainGlobals "Reader" = some (some (.ref C0)))
    (a0 : PySem.W.nsIn K mainGlobals "_law_bag" = some (some (.ref f0)))
    (l0 : K.lookup f0 = some ⟨oc0, od0, .func (PySem.W.fnOf "_law_bag" "_law_bag" (defArgs s_l_bag) (defBody s_l_bag) (defScope s_l_bag) .none kV0 dc0 pm0 an0 cd0 ct0), sl0⟩) (c0 : PySem.W.codeIn K cd0 "_law_bag" = true) (k0 : PySem.W.keepIn K (.ref f0) = true)
    (a1 : PySem.W.nsIn K mainGlobals "_law_take" = some (some (.ref f1)))
    (l1 : K.lookup f1 = some ⟨oc1, od1, .func (PySem.W.fnOf "_law_take" "_law_take" (defArgs s_l_take) (defBody s_l_take) (defScope s_l_take) .none kV1 dc1 pm1 an1 cd1 ct1), sl1⟩) (c1 : PySem.W.codeIn K cd1 "_law_take" = true) (k1 : PySem.W.keepIn K (.ref f1) = true)
    (a2 : PySem.W.nsIn K mainGlobals "_law_signs" = some (some (.ref f2)))
    (l2 : K.lookup f2 = some ⟨oc2, od2, .func (PySem.W.fnOf "_law_signs" "_law_signs" (defArgs s_l_signs) (defBody s_l_signs) (defScope s_l_signs) .none kV2 dc2 pm2 an2 cd2 ct2), sl2⟩) (c2 : PySem.W.codeIn K cd2 "_law_signs" = true) (k2 : PySem.W.keepIn K (.ref f2) = true)
    (a3 : PySem.W.nsIn K mainGlobals "_law_word" = some (some (.ref f3)))
    (l3 : K.lookup f3 = some ⟨oc3, od3, .func (PySem.W.fnOf "_law_word" "_law_word" (defArgs s_l_word) (defBody s_l_word) (defScope s_l_word) .none kV3 dc3 pm3 an3 cd3 ct3), sl3⟩) (c3 : PySem.W.codeIn K cd3 "_law_word" = true) (k3 : PySem.W.keepIn K (.ref f3) = true)
    (a4 : PySem.W.nsIn K mainGlobals "_law_plain_token" = some (some (.ref f4)))
    (l4 : K.lookup f4 = some ⟨oc4, od4, .func (PySem.W.fnOf "_law_plain_token" "_law_plain_token" (defArgs s_l_plain_token) (defBody s_l_plain_token) (defScope s_l_plain_token) .none kV4 dc4 pm4 an4 cd4 ct4), sl4⟩) (c4 : PySem.W.codeIn K cd4 "_law_plain_token" = true) (k4 : PySem.W.keepIn K (.ref f4) = true)
    (a5 : PySem.W.nsIn K mainGlobals "_law_size" = some (some (.ref f5)))
    (l5 : K.lookup f5 = some ⟨oc5, od5, .func (PySem.W.fnOf "_law_size" "_law_size" (defArgs s_l_size) (defBody s_l_size) (defScope s_l_size) .none kV5 dc5 pm5 an5 cd5 ct5), sl5⟩) (c5 : PySem.W.codeIn K cd5 "_law_size" = true) (k5 : PySem.W.keepIn K (.ref f5) = true)
    (a6 : PySem.W.nsIn K mainGlobals "_law_kept" = some (some (.ref f6)))
    (l6 : K.lookup f6 = some ⟨oc6, od6, .func (PySem.W.fnOf "_law_kept" "_law_kept" (defArgs s_l_kept) (defBody s_l_kept) (defScope s_l_kept) .none kV6 dc6 pm6 an6 cd6 ct6), sl6⟩) (c6 : PySem.W.codeIn K cd6 "_law_kept" = true) (k6 : PySem.W.keepIn K (.ref f6) = true)
    (a7 : PySem.W.nsIn K mainGlobals "_law_blocks" = some (some (.ref f7)))
    (l7 : K.lookup f7 = some ⟨oc7, od7, .func (PySem.W.fnOf "_law_blocks" "_law_blocks" (defArgs s_l_blocks) (defBody s_l_blocks) (defScope s_l_blocks) .none kV7 dc7 pm7 an7 cd7 ct7), sl7⟩) (c7 : PySem.W.codeIn K cd7 "_law_blocks" = true) (k7 : PySem.W.keepIn K (.ref f7) = true)
    (a8 : PySem.W.nsIn K mainGlobals "rises" = some (some (.ref f8)))
    (l8 : K.lookup f8 = some ⟨oc8, od8, .func (PySem.W.fnOf "rises" "rises" (defArgs s_rises) (defBody s_rises) (defScope s_rises) .none kV8 dc8 pm8 an8 cd8 ct8), sl8⟩) (c8 : PySem.W.codeIn K cd8 "rises" = true) (k8 : PySem.W.keepIn K (.ref f8) = true)
    (a9 : PySem.W.nsIn K mainGlobals "is_signs" = some (some (.ref f9)))
    (l9 : K.lookup f9 = some ⟨oc9, od9, .func (PySem.W.fnOf "is_signs" "is_signs" (defArgs s_is_signs) (defBody s_is_signs) (defScope s_is_signs) .none kV9 dc9 pm9 an9 cd9 ct9), sl9⟩) (c9 : PySem.W.codeIn K cd9 "is_signs" = true) (k9 : PySem.W.keepIn K (.ref f9) = true)
    (a10 : PySem.W.nsIn K mainGlobals "is_integer" = some (some (.ref f10)))
    (l10 : K.lookup f10 = some ⟨oc10, od10, .func (PySem.W.fnOf "is_integer" "is_integer" (defArgs s_is_integer) (defBody s_is_integer) (defScope s_is_integer) .none kV10 dc10 pm10 an10 cd10 ct10), sl10⟩) (c10 : PySem.W.codeIn K cd10 "is_integer" = true) (k10 : PySem.W.keepIn K (.ref f10) = true)
    (a11 : PySem.W.nsIn K mainGlobals "is_width" = some (some (.ref f11)))
    (l11 : K.lookup f11 = some ⟨oc11, od11, .func (PySem.W.fnOf "is_width" "is_width" (defArgs s_is_width) (defBody s_is_width) (defScope s_is_width) .none kV11 dc11 pm11 an11 cd11 ct11), sl11⟩) (c11 : PySem.W.codeIn K cd11 "is_width" = true) (k11 : PySem.W.keepIn K (.ref f11) = true)
    (a12 : PySem.W.findIn K (.ref C0) "__init__" = some (some (.ref f12))) (i12 : PySem.W.isFn K (.ref f12) = true)
    (l12 : K.lookup f12 = some ⟨oc12, od12, .func (PySem.W.fnOf "__init__" "Reader.__init__" (defArgs s_Reader_init) (defBody s_Reader_init) (defScope s_Reader_init) .none kV12 dc12 pm12 an12 cd12 ct12), sl12⟩) (c12 : PySem.W.codeIn K cd12 "Reader.__init__" = true) (k12 : PySem.W.keepIn K (.ref f12) = true)
    (a13 : PySem.W.findIn K (.ref C0) "copied" = some (some (.ref f13))) (i13 : PySem.W.isFn K (.ref f13) = true)
    (l13 : K.lookup f13 = some ⟨oc13, od13, .func (PySem.W.fnOf "copied" "Reader.copied" (defArgs s_Reader_copied) (defBody s_Reader_copied) (defScope s_Reader_copied) .none kV13 dc13 pm13 an13 cd13 ct13), sl13⟩) (c13 : PySem.W.codeIn K cd13 "Reader.copied" = true) (k13 : PySem.W.keepIn K (.ref f13) = true)
    (a14 : PySem.W.nsIn K mainGlobals "is_text" = some (some (.ref f14)))
    (l14 : K.lookup f14 = some ⟨oc14, od14, .func (PySem.W.fnOf "is_text" "is_text" (defArgs s_is_text) (defBody s_is_text) (defScope s_is_text) .none kV14 dc14 pm14 an14 cd14 ct14), sl14⟩) (c14 : PySem.W.codeIn K cd14 "is_text" = true) (k14 : PySem.W.keepIn K (.ref f14) = true)
    (a15 : PySem.W.nsIn K mainGlobals "is_choice" = some (some (.ref f15)))
    (l15 : K.lookup f15 = some ⟨oc15, od15, .func (PySem.W.fnOf "is_choice" "is_choice" (defArgs s_is_choice) (defBody s_is_choice) (defScope s_is_choice) .none kV15 dc15 pm15 an15 cd15 ct15), sl15⟩) (c15 : PySem.W.codeIn K cd15 "is_choice" = true) (k15 : PySem.W.keepIn K (.ref f15) = true)
    (a16 : PySem.W.nsIn K mainGlobals "is_run" = some (some (.ref f16)))
    (l16 : K.lookup f16 = some ⟨oc16, od16, .func (PySem.W.fnOf "is_run" "is_run" (defArgs s_is_run) (defBody s_is_run) (defScope s_is_run) .none kV16 dc16 pm16 an16 cd16 ct16), sl16⟩) (c16 : PySem.W.codeIn K cd16 "is_run" = true) (k16 : PySem.W.keepIn K (.ref f16) = true)
    (a17 : PySem.W.nsIn K mainGlobals "is_token" = some (some (.ref f17)))
    (l17 : K.lookup f17 = some ⟨oc17, od17, .func (PySem.W.fnOf "is_token" "is_token" (defArgs s_is_token) (defBody s_is_token) (defScope s_is_token) .none kV17 dc17 pm17 an17 cd17 ct17), sl17⟩) (c17 : PySem.W.codeIn K cd17 "is_token" = true) (k17 : PySem.W.keepIn K (.ref f17) = true)
    (a18 : PySem.W.nsIn K mainGlobals "is_plain" = some (some (.ref f18)))
    (l18 : K.lookup f18 = some ⟨oc18, od18, .func (PySem.W.fnOf "is_plain" "is_plain" (defArgs s_is_plain) (defBody s_is_plain) (defScope s_is_plain) .none kV18 dc18 pm18 an18 cd18 ct18), sl18⟩) (c18 : PySem.W.codeIn K cd18 "is_plain" = true) (k18 : PySem.W.keepIn K (.ref f18) = true)
    (a19 : PySem.W.nsIn K mainGlobals "is_readable" = some (some (.ref f19)))
    (l19 : K.lookup f19 = some ⟨oc19, od19, .func (PySem.W.fnOf "is_readable" "is_readable" (defArgs s_is_readable) (defBody s_is_readable) (defScope s_is_readable) .none kV19 dc19 pm19 an19 cd19 ct19), sl19⟩) (c19 : PySem.W.codeIn K cd19 "is_readable" = true) (k19 : PySem.W.keepIn K (.ref f19) = true)
    (a20 : PySem.W.findIn K (.ref C0) "note" = some (some (.ref f20))) (i20 : PySem.W.isFn K (.ref f20) = true)
    (l20 : K.lookup f20 = some ⟨oc20, od20, .func (PySem.W.fnOf "note" "Reader.note" (defArgs s_Reader_note) (defBody s_Reader_note) (defScope s_Reader_note) .none kV20 dc20 pm20 an20 cd20 ct20), sl20⟩) (c20 : PySem.W.codeIn K cd20 "Reader.note" = true) (k20 : PySem.W.keepIn K (.ref f20) = true)
    (a21 : PySem.W.nsIn K mainGlobals "copied_signs" = some (some (.ref f21)))
    (l21 : K.lookup f21 = some ⟨oc21, od21, .func (PySem.W.fnOf "copied_signs" "copied_signs" (defArgs s_copied_signs) (defBody s_copied_signs) (defScope s_copied_signs) .none kV21 dc21 pm21 an21 cd21 ct21), sl21⟩) (c21 : PySem.W.codeIn K cd21 "copied_signs" = true) (k21 : PySem.W.keepIn K (.ref f21) = true)
    (a22 : PySem.W.findIn K (.ref C0) "kept" = some (some (.ref f22))) (i22 : PySem.W.isFn K (.ref f22) = true)
    (l22 : K.lookup f22 = some ⟨oc22, od22, .func (PySem.W.fnOf "kept" "Reader.kept" (defArgs s_Reader_kept) (defBody s_Reader_kept) (defScope s_Reader_kept) .none kV22 dc22 pm22 an22 cd22 ct22), sl22⟩) (c22 : PySem.W.codeIn K cd22 "Reader.kept" = true) (k22 : PySem.W.keepIn K (.ref f22) = true)
    (a23 : PySem.W.findIn K (.ref C0) "read" = some (some (.ref f23))) (i23 : PySem.W.isFn K (.ref f23) = true)
    (l23 : K.lookup f23 = some ⟨oc23, od23, .func (PySem.W.fnOf "read" "Reader.read" (defArgs s_Reader_read) (defBody s_Reader_read) (defScope s_Reader_read) .none kV23 dc23 pm23 an23 cd23 ct23), sl23⟩) (c23 : PySem.W.codeIn K cd23 "Reader.read" = true) (k23 : PySem.W.keepIn K (.ref f23) = true)
    (a24 : PySem.W.findIn K (.ref C0) "read_all" = some (some (.ref f24))) (i24 : PySem.W.isFn K (.ref f24) = true)
    (l24 : K.lookup f24 = some ⟨oc24, od24, .func (PySem.W.fnOf "read_all" "Reader.read_all" (defArgs s_Reader_read_all) (defBody s_Reader_read_all) (defScope s_Reader_read_all) .none kV24 dc24 pm24 an24 cd24 ct24), sl24⟩) (c24 : PySem.W.codeIn K cd24 "Reader.read_all" = true) (k24 : PySem.W.keepIn K (.ref f24) = true)
    (a25 : PySem.W.nsIn K mainGlobals "block_texts" = some (some (.ref f25)))
    (l25 : K.lookup f25 = some ⟨oc25, od25, .func (PySem.W.fnOf "block_texts" "block_texts" (defArgs s_block_texts) (defBody s_block_texts) (defScope s_block_texts) .none kV25 dc25 pm25 an25 cd25 ct25), sl25⟩) (c25 : PySem.W.codeIn K cd25 "block_texts" = true) (k25 : PySem.W.keepIn K (.ref f25) = true)
    (a26 : PySem.W.nsIn K mainGlobals "_law_backs" = some (some (.ref f26)))
    (l26 : K.lookup f26 = some ⟨oc26, od26, .func (PySem.W.fnOf "_law_backs" "_law_backs" (defArgs s_l_backs) (defBody s_l_backs) (defScope s_l_backs) .none kV26 dc26 pm26 an26 cd26 ct26), sl26⟩) (c26 : PySem.W.codeIn K cd26 "_law_backs" = true) (k26 : PySem.W.keepIn K (.ref f26) = true)
    (a27 : PySem.W.nsIn K mainGlobals "_law_needed" = some (some (.ref f27)))
    (l27 : K.lookup f27 = some ⟨oc27, od27, .func (PySem.W.fnOf "_law_needed" "_law_needed" (defArgs s_l_needed) (defBody s_l_needed) (defScope s_l_needed) .none kV27 dc27 pm27 an27 cd27 ct27), sl27⟩) (c27 : PySem.W.codeIn K cd27 "_law_needed" = true) (k27 : PySem.W.keepIn K (.ref f27) = true)
    (a28 : PySem.W.nsIn K mainGlobals "size" = some (some (.ref f28)))
    (l28 : K.lookup f28 = some ⟨oc28, od28, .func (PySem.W.fnOf "size" "size" (defArgs s_size) (defBody s_size) (defScope s_size) .none kV28 dc28 pm28 an28 cd28 ct28), sl28⟩) (c28 : PySem.W.codeIn K cd28 "size" = true) (k28 : PySem.W.keepIn K (.ref f28) = true)
    (a29 : PySem.W.nsIn K mainGlobals "sign_sources" = some (some (.ref f29)))
    (l29 : K.lookup f29 = some ⟨oc29, od29, .func (PySem.W.fnOf "sign_sources" "sign_sources" (defArgs s_sign_sources) (defBody s_sign_sources) (defScope s_sign_sources) .none kV29 dc29 pm29 an29 cd29 ct29), sl29⟩) (c29 : PySem.W.codeIn K cd29 "sign_sources" = true) (k29 : PySem.W.keepIn K (.ref f29) = true)
    (a30 : PySem.W.nsIn K mainGlobals "blocks_behind" = some (some (.ref f30)))
    (l30 : K.lookup f30 = some ⟨oc30, od30, .func (PySem.W.fnOf "blocks_behind" "blocks_behind" (defArgs s_blocks_behind) (defBody s_blocks_behind) (defScope s_blocks_behind) .none kV30 dc30 pm30 an30 cd30 ct30), sl30⟩) (c30 : PySem.W.codeIn K cd30 "blocks_behind" = true) (k30 : PySem.W.keepIn K (.ref f30) = true)
    (a31 : PySem.W.nsIn K mainGlobals "needed" = some (some (.ref f31)))
    (l31 : K.lookup f31 = some ⟨oc31, od31, .func (PySem.W.fnOf "needed" "needed" (defArgs s_needed) (defBody s_needed) (defScope s_needed) .none kV31 dc31 pm31 an31 cd31 ct31), sl31⟩) (c31 : PySem.W.codeIn K cd31 "needed" = true) (k31 : PySem.W.keepIn K (.ref f31) = true)
    (a32 : PySem.W.nsIn K mainGlobals "_law_alike" = some (some (.ref f32)))
    (l32 : K.lookup f32 = some ⟨oc32, od32, .func (PySem.W.fnOf "_law_alike" "_law_alike" (defArgs s_l_alike) (defBody s_l_alike) (defScope s_l_alike) .none kV32 dc32 pm32 an32 cd32 ct32), sl32⟩) (c32 : PySem.W.codeIn K cd32 "_law_alike" = true) (k32 : PySem.W.keepIn K (.ref f32) = true)
    (a33 : PySem.W.findIn K (.ref C0) "lost" = some (some (.ref f33))) (i33 : PySem.W.isFn K (.ref f33) = true)
    (l33 : K.lookup f33 = some ⟨oc33, od33, .func (PySem.W.fnOf "lost" "Reader.lost" (defArgs s_Reader_lost) (defBody s_Reader_lost) (defScope s_Reader_lost) .none kV33 dc33 pm33 an33 cd33 ct33), sl33⟩) (c33 : PySem.W.codeIn K cd33 "Reader.lost" = true) (k33 : PySem.W.keepIn K (.ref f33) = true)
    (a34 : PySem.W.nsIn K mainGlobals "spoilt" = some (some (.ref f34)))
    (l34 : K.lookup f34 = some ⟨oc34, od34, .func (PySem.W.fnOf "spoilt" "spoilt" (defArgs s_spoilt) (defBody s_spoilt) (defScope s_spoilt) .none kV34 dc34 pm34 an34 cd34 ct34), sl34⟩) (c34 : PySem.W.codeIn K cd34 "spoilt" = true) (k34 : PySem.W.keepIn K (.ref f34) = true)
    (a35 : PySem.W.nsIn K mainGlobals "law" = some (some (.ref f35)))
    (l35 : K.lookup f35 = some ⟨oc35, od35, .func (PySem.W.fnOf "law" "law" (defArgs s_law) (defBody s_law) (defScope s_law) .none kV35 dc35 pm35 an35 cd35 ct35), sl35⟩) (c35 : PySem.W.codeIn K cd35 "law" = true) (k35 : PySem.W.keepIn K (.ref f35) = true)
    (pg0 : PySem.W.plainGet K C0 Str.empty = true) (hd0 : PySem.W.hasDictIn K C0 = true) (po0 : PySem.W.plainOver K C0 = true) (sa0 : PySem.W.findIn K (.ref C0) "__setattr__" = some (some (.builtin "object.__setattr__"))) (mk0 : PySem.W.makesIn K C0 = true) (kc0 : PySem.W.keepIn K (.ref C0) = true)
    (n0_its_number : PySem.W.findIn K (.ref C0) "its_number" = some none)
    (n0_its_signs : PySem.W.findIn K (.ref C0) "its_signs" = some none)
    (n0_its_text : PySem.W.findIn K (.ref C0) "its_text" = some none)
    (n0_its_width : PySem.W.findIn K (.ref C0) "its_width" = some none)
    (z_range : PySem.W.nsIn K mainGlobals "range" = some none)
    (z_list : PySem.W.nsIn K mainGlobals "list" = some none)
    (z_len : PySem.W.nsIn K mainGlobals "len" = some none)
    (z_abs : PySem.W.nsIn K mainGlobals "abs" = some none)
    (z_int : PySem.W.nsIn K mainGlobals "int" = some none)
    (z_min : PySem.W.nsIn K mainGlobals "min" = some none)
    (z_str : PySem.W.nsIn K mainGlobals "str" = some none)
    (z_isinstance : PySem.W.nsIn K mainGlobals "isinstance" = some none)
    (z_all : PySem.W.nsIn K mainGlobals "all" = some none)
    (z_zip : PySem.W.nsIn K mainGlobals "zip" = some none)
    (z_bool : PySem.W.nsIn K mainGlobals "bool" = some none)
    (z_tuple : PySem.W.nsIn K mainGlobals "tuple" = some none)
    (z_sorted : PySem.W.nsIn K mainGlobals "sorted" = some none)
    (z_set : PySem.W.nsIn K mainGlobals "set" = some none)
    (z_enumerate : PySem.W.nsIn K mainGlobals "enumerate" = some none)
    (z_repr : PySem.W.nsIn K mainGlobals "repr" = some none)
    (z_sum : PySem.W.nsIn K mainGlobals "sum" = some none)
    (c_LEAST_SIGNS : PySem.W.nsIn K mainGlobals "LEAST_SIGNS" = some (some (.int 2 t_LEAST_SIGNS)))
    (c_LETTERS : PySem.W.nsIn K mainGlobals "LETTERS" = some (some (.str "abcdefghijklmnopqrstuvwxyz" t_LETTERS)))
    (c_MARK : PySem.W.nsIn K mainGlobals "MARK" = some (some (.str "?" t_MARK)))
    (c_MOST_SIGNS : PySem.W.nsIn K mainGlobals "MOST_SIGNS" = some (some (.int 6 t_MOST_SIGNS)))
    (c_MOST_SIZE : PySem.W.nsIn K mainGlobals "MOST_SIZE" = some (some (.int 40 t_MOST_SIZE)))
    (c_MOST_WIDTH : PySem.W.nsIn K mainGlobals "MOST_WIDTH" = some (some (.int 12 t_MOST_WIDTH))) :
    ∃ fd : FuncData, (∀ (s : Shared) (v : Value), BindsTo s fd ⟨[v], []⟩ [("_law_script", v)]) ∧ ∃ T : Cl, T.K = K ∧ ∃ f : M W, (∀ ns : List Int, ns.length ≤ 63 → ∃ e, f [some (.sh (.scr ns))] = .ok (.sh (.bl true)) e) ∧
      ∀ base : Heap, K.In base → base.Ns mainGlobals mg → FnG l.prog w K mg base 10 fa fd ["_law_script"] (spF T 1 f) := by
  have e := hfa.symm.trans (PySem.W.mg_of X G a35)
  cases e
  have F0 := fun_mk (st := s_l_bag) l0 c0 k0
  have b0 := F0.binds (ps := ["_law_script"]) fun _ _ _ _ _ _ us hl => match us, hl with | [_], _ => rfl
  have F1 := fun_mk (st := s_l_take) l1 c1 k1
  have b1 := F1.binds (ps := ["_law_bag_here", "_law_many"]) fun _ _ _ _ _ _ us hl => match us, hl with | [_, _], _ => rfl
  have F2 := fun_mk (st := s_l_signs) l2 c2 k2
  have b2 := F2.binds (ps := ["_law_bag_here"]) fun _ _ _ _ _ _ us hl => match us, hl with | [_], _ => rfl
  have F3 := fun_mk (st := s_l_word) l3 c3 k3
  have b3 := F3.binds (ps := ["_law_bag_here", "_law_signs_here", "_law_many"]) fun _ _ _ _ _ _ us hl => match us, hl with | [_, _, _], _ => rfl
  have F4 := fun_mk (st := s_l_plain_token) l4 c4 k4
  have b4 := F4.binds (ps := ["_law_bag_here", "_law_signs_here", "_law_kept_here", "_law_most"]) fun _ _ _ _ _ _ us hl => match us, hl with | [_, _, _, _], _ => rfl
  have F5 := fun_mk (st := s_l_size) l5 c5 k5
  have b5 := F5.binds (ps := ["_law_token"]) fun _ _ _ _ _ _ us hl => match us, hl with | [_], _ => rfl
  have F6 := fun_mk (st := s_l_kept) l6 c6 k6
  have b6 := F6.binds (ps := ["_law_tokens", "_law_width", "_law_ahead"]) fun _ _ _ _ _ _ us hl => match us, hl with | [_, _, _], _ => rfl
  have F7 := fun_mk (st := s_l_blocks) l7 c7 k7
  have b7 := F7.binds (ps := ["_law_bag_here", "_law_signs_here", "_law_width", "_law_count"]) fun _ _ _ _ _ _ us hl => match us, hl with | [_, _, _, _], _ => rfl
  have F8 := fun_mk (st := s_rises) l8 c8 k8
  have b8 := F8.binds (ps := ["text"]) fun _ _ _ _ _ _ us hl => match us, hl with | [_], _ => rfl
  have F9 := fun_mk (st := s_is_signs) l9 c9 k9
  have b9 := F9.binds (ps := ["thing"]) fun _ _ _ _ _ _ us hl => match us, hl with | [_], _ => rfl
  have F10 := fun_mk (st := s_is_integer) l10 c10 k10
  have b10 := F10.binds (ps := ["thing"]) fun _ _ _ _ _ _ us hl => match us, hl with | [_], _ => rfl
  have F11 := fun_mk (st := s_is_width) l11 c11 k11
  have b11 := F11.binds (ps := ["thing"]) fun _ _ _ _ _ _ us hl => match us, hl with | [_], _ => rfl
  have F12 := fun_mk (st := s_Reader_init) l12 c12 k12
  have b12 := F12.binds (ps := ["self", "signs", "width"]) fun _ _ _ _ _ _ us hl => match us, hl with | [_, _, _], _ => rfl
  have F13 := fun_mk (st := s_Reader_copied) l13 c13 k13
  have b13 := F13.binds (ps := ["self"]) fun _ _ _ _ _ _ us hl => match us, hl with | [_], _ => rfl
  have F14 := fun_mk (st := s_is_text) l14 c14 k14
  have b14 := F14.binds (ps := ["signs", "thing"]) fun _ _ _ _ _ _ us hl => match us, hl with | [_, _], _ => rfl
  have F15 := fun_mk (st := s_is_choice) l15 c15 k15
  have b15 := F15.binds (ps := ["signs", "thing"]) fun _ _ _ _ _ _ us hl => match us, hl with | [_, _], _ => rfl
  have F16 := fun_mk (st := s_is_run) l16 c16 k16
  have b16 := F16.binds (ps := ["thing"]) fun _ _ _ _ _ _ us hl => match us, hl with | [_], _ => rfl
  have F17 := fun_mk (st := s_is_token) l17 c17 k17
  have b17 := F17.binds (ps := ["signs", "thing"]) fun _ _ _ _ _ _ us hl => match us, hl with | [_, _], _ => rfl
  have F18 := fun_mk (st := s_is_plain) l18 c18 k18
  have b18 := F18.binds (ps := ["signs", "thing"]) fun _ _ _ _ _ _ us hl => match us, hl with | [_, _], _ => rfl
  have F19 := fun_mk (st := s_is_readable) l19 c19 k19
  have b19 := F19.binds (ps := ["signs", "width", "thing"]) fun _ _ _ _ _ _ us hl => match us, hl with | [_, _, _], _ => rfl
  have F20 := fun_mk (st := s_Reader_note) l20 c20 k20
  have b20 := F20.binds (ps := ["self", "text"]) fun _ _ _ _ _ _ us hl => match us, hl with | [_, _], _ => rfl
  have F21 := fun_mk (st := s_copied_signs) l21 c21 k21
  have b21 := F21.binds (ps := ["text", "distance", "many"]) fun _ _ _ _ _ _ us hl => match us, hl with | [_, _, _], _ => rfl
  have F22 := fun_mk (st := s_Reader_kept) l22 c22 k22
  have b22 := F22.binds (ps := ["self"]) fun _ _ _ _ _ _ us hl => match us, hl with | [_], _ => rfl
  have F23 := fun_mk (st := s_Reader_read) l23 c23 k23
  have b23 := F23.binds (ps := ["self", "token"]) fun _ _ _ _ _ _ us hl => match us, hl with | [_, _], _ => rfl
  have F24 := fun_mk (st := s_Reader_read_all) l24 c24 k24
  have b24 := F24.binds (ps := ["self", "tokens"]) fun _ _ _ _ _ _ us hl => match us, hl with | [_, _], _ => rfl
  have F25 := fun_mk (st := s_block_texts) l25 c25 k25
  have b25 := F25.binds (ps := ["signs", "width", "blocks"]) fun _ _ _ _ _ _ us hl => match us, hl with | [_, _, _], _ => rfl
  have F26 := fun_mk (st := s_l_backs) l26 c26 k26
  have b26 := F26.binds (ps := ["_law_blocks_here"]) fun _ _ _ _ _ _ us hl => match us, hl with | [_], _ => rfl
  have F27 := fun_mk (st := s_l_needed) l27 c27 k27
  have b27 := F27.binds (ps := ["_law_blocks_here", "_law_index"]) fun _ _ _ _ _ _ us hl => match us, hl with | [_, _], _ => rfl
  have F28 := fun_mk (st := s_size) l28 c28 k28
  have b28 := F28.binds (ps := ["token"]) fun _ _ _ _ _ _ us hl => match us, hl with | [_], _ => rfl
  have F29 := fun_mk (st := s_sign_sources) l29 c29 k29
  have b29 := F29.binds (ps := ["blocks"]) fun _ _ _ _ _ _ us hl => match us, hl with | [_], _ => rfl
  have F30 := fun_mk (st := s_blocks_behind) l30 c30 k30
  have b30 := F30.binds (ps := ["sources", "at"]) fun _ _ _ _ _ _ us hl => match us, hl with | [_, _], _ => rfl
  have F31 := fun_mk (st := s_needed) l31 c31 k31
  have b31 := F31.binds (ps := ["signs", "width", "blocks", "index"]) fun _ _ _ _ _ _ us hl => match us, hl with | [_, _, _, _], _ => rfl
  have F32 := fun_mk (st := s_l_alike) l32 c32 k32
  have b32 := F32.binds (ps := ["_law_found", "_law_due"]) fun _ _ _ _ _ _ us hl => match us, hl with | [_, _], _ => rfl
  have F33 := fun_mk (st := s_Reader_lost) l33 c33 k33
  have b33 := F33.binds (ps := ["self", "many"]) fun _ _ _ _ _ _ us hl => match us, hl with | [_, _], _ => rfl
  have F34 := fun_mk (st := s_spoilt) l34 c34 k34
  have b34 := F34.binds (ps := ["signs", "width", "blocks", "lost"]) fun _ _ _ _ _ _ us hl => match us, hl with | [_, _, _, _], _ => rfl
  have F35 := fun_mk (st := s_law) l35 c35 k35
  have b35 := F35.binds (ps := ["_law_script"]) fun _ _ _ _ _ _ us hl => match us, hl with | [_], _ => rfl
  have Y : Facts l.prog K mg ⟨K, fun _ => C0⟩ ⟨f0, _, f1, _, f2, _, f3, _, f4, _, f5, _, f6, _, f7, _, f8, _, f9, _, f10, _, f11, _, f12, _, f13, _, f14, _, f15, _, f16, _, f17, _, f18, _, f19, _, f20, _, f21, _, f22, _, f23, _, f24, _, f25, _, f26, _, f27, _, f28, _, f29, _, f30, _, f31, _, f32, _, f33, _, f34, _, _, _⟩ ⟨t_LEAST_SIGNS, t_LETTERS, t_MARK, t_MOST_SIGNS, t_MOST_SIZE, t_MOST_WIDTH⟩ :=
    { hT := rfl,
      f_l_bag := F0,
      b_l_bag := b0,
      m_l_bag := PySem.W.mg_of X G a0,
      f_l_take := F1,
      b_l_take := b1,
      m_l_take := PySem.W.mg_of X G a1,
      f_l_signs := F2,
      b_l_signs := b2,
      m_l_signs := PySem.W.mg_of X G a2,
      f_l_word := F3,
      b_l_word := b3,
      m_l_word := PySem.W.mg_of X G a3,
      f_l_plain_token := F4,
      b_l_plain_token := b4,
      m_l_plain_token := PySem.W.mg_of X G a4,
      f_l_size := F5,
      b_l_size := b5,
      m_l_size := PySem.W.mg_of X G a5,
      f_l_kept := F6,
      b_l_kept := b6,
      m_l_kept := PySem.W.mg_of X G a6,
      f_l_blocks := F7,
      b_l_blocks := b7,
      m_l_blocks := PySem.W.mg_of X G a7,
      f_rises := F8,
      b_rises := b8,
      m_rises := PySem.W.mg_of X G a8,
      f_is_signs := F9,
      b_is_signs := b9,
      m_is_signs := PySem.W.mg_of X G a9,
      f_is_integer := F10,
      b_is_integer := b10,
      m_is_integer := PySem.W.mg_of X G a10,
      f_is_width := F11,
      b_is_width := b11,
      m_is_width := PySem.W.mg_of X G a11,
      f_Reader_init := F12,
      b_Reader_init := b12,
      f_Reader_copied := F13,
      b_Reader_copied := b13,
      t_Reader_copied := ⟨a13, i13, k13⟩,
      f_is_text := F14,
      b_is_text := b14,
      m_is_text := PySem.W.mg_of X G a14,
      f_is_choice := F15,
      b_is_choice := b15,
      m_is_choice := PySem.W.mg_of X G a15,
      f_is_run := F16,
      b_is_run := b16,
      m_is_run := PySem.W.mg_of X G a16,
      f_is_token := F17,
      b_is_token := b17,
      m_is_token := PySem.W.mg_of X G a17,
      f_is_plain := F18,
      b_is_plain := b18,
      m_is_plain := PySem.W.mg_of X G a18,
      f_is_readable := F19,
      b_is_readable := b19,
      m_is_readable := PySem.W.mg_of X G a19,
      f_Reader_note := F20,
      b_Reader_note := b20,
      t_Reader_note := ⟨a20, i20, k20⟩,
      f_copied_signs := F21,
      b_copied_signs := b21,
      m_copied_signs := PySem.W.mg_of X G a21,
      f_Reader_kept := F22,
      b_Reader_kept := b22,
      t_Reader_kept := ⟨a22, i22, k22⟩,
      f_Reader_read := F23,
      b_Reader_read := b23,
      t_Reader_read := ⟨a23, i23, k23⟩,
      f_Reader_read_all := F24,
      b_Reader_read_all := b24,
      t_Reader_read_all := ⟨a24, i24, k24⟩,
      f_block_texts := F25,
      b_block_texts := b25,
      m_block_texts := PySem.W.mg_of X G a25,
      f_l_backs := F26,
      b_l_backs := b26,
      m_l_backs := PySem.W.mg_of X G a26,
      f_l_needed := F27,
      b_l_needed := b27,
      m_l_needed := PySem.W.mg_of X G a27,
      f_size := F28,
      b_size := b28,
      m_size := PySem.W.mg_of X G a28,
      f_sign_sources := F29,
      b_sign_sources := b29,
      m_sign_sources := PySem.W.mg_of X G a29,
      f_blocks_behind := F30,
      b_blocks_behind := b30,
      m_blocks_behind := PySem.W.mg_of X G a30,
      f_needed := F31,
      b_needed := b31,
      m_needed := PySem.W.mg_of X G a31,
      f_l_alike := F32,
      b_l_alike := b32,
      m_l_alike := PySem.W.mg_of X G a32,
      f_Reader_lost := F33,
      b_Reader_lost := b33,
      t_Reader_lost := ⟨a33, i33, k33⟩,
      f_spoilt := F34,
      b_spoilt := b34,
      m_spoilt := PySem.W.mg_of X G a34,
      f_law := F35,
      b_law := b35,
      m_law := PySem.W.mg_of X G a35,
      cl0 := ⟨pg0, hd0, po0, sa0⟩,
      g0 := PySem.W.mg_of X G aC0,
      mk0 := ⟨mk0, a12, i12, kc0⟩,
      n0_its_number := n0_its_number,
      n0_its_signs := n0_its_signs,
      n0_its_text := n0_its_text,
      n0_its_width := n0_its_width,
      z_range := PySem.W.mg_none_of X G z_range,
      z_list := PySem.W.mg_none_of X G z_list,
      z_len := PySem.W.mg_none_of X G z_len,
      z_abs := PySem.W.mg_none_of X G z_abs,
      z_int := PySem.W.mg_none_of X G z_int,
      z_min := PySem.W.mg_none_of X G z_min,
      z_str := PySem.W.mg_none_of X G z_str,
      z_isinstance := PySem.W.mg_none_of X G z_isinstance,
      z_all := PySem.W.mg_none_of X G z_all,
      z_zip := PySem.W.mg_none_of X G z_zip,
      z_bool := PySem.W.mg_none_of X G z_bool,
      z_tuple := PySem.W.mg_none_of X G z_tuple,
      z_sorted := PySem.W.mg_none_of X G z_sorted,
      z_set := PySem.W.mg_none_of X G z_set,
      z_enumerate := PySem.W.mg_none_of X G z_enumerate,
      z_repr := PySem.W.mg_none_of X G z_repr,
      z_sum := PySem.W.mg_none_of X G z_sum,
      c_LEAST_SIGNS := PySem.W.mg_of X G c_LEAST_SIGNS,
      c_LETTERS := PySem.W.mg_of X G c_LETTERS,
      c_MARK := PySem.W.mg_of X G c_MARK,
      c_MOST_SIGNS := PySem.W.mg_of X G c_MOST_SIGNS,
      c_MOST_SIZE := PySem.W.mg_of X G c_MOST_SIZE,
      c_MOST_WIDTH := PySem.W.mg_of X G c_MOST_WIDTH }
  exact ⟨_, fun s v => .of_eq rfl, _, rfl, F_law, law_true, fun base _ _ => ok_law Y⟩
end Wc.K26
open PySem PySem.W PyProof.Rows in
set_option maxRecDepth 100000 in
set_option maxHeartbeats 0 in
theorem PySem.Challenge.cw_windowcuts_k26_whole_blocks_needed_holds : PySem.Challenge.rw_windowcuts_k26_whole_blocks_needed.Holds := by
  w_on; o_law; k_head; (case hw => w_witness2)
  k_fill
  refine Wc.walkG (l := PySem.Challenge.rw_windowcuts_k26_whole_blocks_needed) (n := 63) (k := 10) (x := "_law_script") rfl (by decide) rfl ⟨rfl, by decide, by decide⟩ (fun w h Y => PySem.W.kIn_of Y) ?F
  case F =>
    intro w mg fa h KX G hmg
    refine' Wc.K26.all_mk KX G hmg ?aC0 ?a0 ?l0 ?c0 ?k0 ?a1 ?l1 ?c1 ?k1 ?a2 ?l2 ?c2 ?k2 ?a3 ?l3 ?c3 ?k3 ?a4 ?l4 ?c4 ?k4 ?a5 ?l5 ?c5 ?k5 ?a6 ?l6 ?c6 ?k6 ?a7 ?l7 ?c7 ?k7 ?a8 ?l8 ?c8 ?k8 ?a9 ?l9 ?c9 ?k9 ?a10 ?l10 ?c10 ?k10 ?a11 ?l11 ?c11 ?k11 ?a12 ?i12 ?l12 ?c12 ?k12 ?a13 ?i13 ?l13 ?c13 ?k13 ?a14 ?l14 ?c14 ?k14 ?a15 ?l15 ?c15 ?k15 ?a16 ?l16 ?c16 ?k16 ?a17 ?l17 ?c17 ?k17 ?a18 ?l18 ?c18 ?k18 ?a19 ?l19 ?c19 ?k19 ?a20 ?i20 ?l20 ?c20 ?k20 ?a21 ?l21 ?c21 ?k21 ?a22 ?i22 ?l22 ?c22 ?k22 ?a23 ?i23 ?l23 ?c23 ?k23 ?a24 ?i24 ?l24 ?c24 ?k24 ?a25 ?l25 ?c25 ?k25 ?a26 ?l26 ?c26 ?k26 ?a27 ?l27 ?c27 ?k27 ?a28 ?l28 ?c28 ?k28 ?a29 ?l29 ?c29 ?k29 ?a30 ?l30 ?c30 ?k30 ?a31 ?l31 ?c31 ?k31 ?a32 ?l32 ?c32 ?k32 ?a33 ?i33 ?l33 ?c33 ?k33 ?a34 ?l34 ?c34 ?k34 ?a35 ?l35 ?c35 ?k35 ?pg0 ?hd0 ?po0 ?sa0 ?mk0 ?kc0 ?n0_its_number ?n0_its_signs ?n0_its_text ?n0_its_width ?z_range ?z_list ?z_len ?z_abs ?z_int ?z_min ?z_str ?z_isinstance ?z_all ?z_zip ?z_bool ?z_tuple ?z_sorted ?z_set ?z_enumerate ?z_repr ?z_sum ?c_LEAST_SIGNS ?c_LETTERS ?c_MARK ?c_MOST_SIGNS ?c_MOST_SIZE ?c_MOST_WIDTH
    (case aC0 => k_is)
    (case a0 => k_is)
    (case l0 => k_is)
    (case c0 => k_is)
    (case k0 => k_is)
    (case a1 => k_is)
    (case l1 => k_is)
    (case c1 => k_is)
    (case k1 => k_is)
    (case a2 => k_is)
    (case l2 => k_is)
    (case c2 => k_is)
    (case k2 => k_is)
    (case a3 => k_is)
    (case l3 => k_is)
    (case c3 => k_is)
    (case k3 => k_is)
    (case a4 => k_is)
    (case l4 => k_is)
    (case c4 => k_is)
    (case k4 => k_is)
    (case a5 => k_is)
    (case l5 => k_is)
    (case c5 => k_is)
    (case k5 => k_is)
    (case a6 => k_is)
    (case l6 => k_is)
    (case c6 => k_is)
    (case k6 => k_is)
    (case a7 => k_is)
    (case l7 => k_is)
    (case c7 => k_is)
    (case k7 => k_is)
    (case a8 => k_is)
    (case l8 => k_is)
    (case c8 => k_is)
    (case k8 => k_is)
    (case a9 => k_is)
    (case l9 => k_is)
    (case c9 => k_is)
    (case k9 => k_is)
    (case a10 => k_is)
    (case l10 => k_is)
    (case c10 => k_is)
    (case k10 => k_is)
    (case a11 => k_is)
    (case l11 => k_is)
    (case c11 => k_is)
    (case k11 => k_is)
    (case a12 => k_is)
    (case i12 => k_is)
    (case l12 => k_is)
    (case c12 => k_is)
    (case k12 => k_is)
    (case a13 => k_is)
    (case i13 => k_is)
    (case l13 => k_is)
    (case c13 => k_is)
    (case k13 => k_is)
    (case a14 => k_is)
    (case l14 => k_is)
    (case c14 => k_is)
    (case k14 => k_is)
    (case a15 => k_is)
    (case l15 => k_is)
    (case c15 => k_is)
    (case k15 => k_is)
    (case a16 => k_is)
    (case l16 => k_is)
    (case c16 => k_is)
    (case k16 => k_is)
    (case a17 => k_is)
    (case l17 => k_is)
    (case c17 => k_is)
    (case k17 => k_is)
    (case a18 => k_is)
    (case l18 => k_is)
    (case c18 => k_is)
    (case k18 => k_is)
    (case a19 => k_is)
    (case l19 => k_is)
    (case c19 => k_is)
    (case k19 => k_is)
    (case a20 => k_is)
    (case i20 => k_is)
    (case l20 => k_is)
    (case c20 => k_is)
    (case k20 => k_is)
    (case a21 => k_is)
    (case l21 => k_is)
    (case c21 => k_is)
    (case k21 => k_is)
    (case a22 => k_is)
    (case i22 => k_is)
    (case l22 => k_is)
    (case c22 => k_is)
    (case k22 => k_is)
    (case a23 => k_is)
    (case i23 => k_is)
    (case l23 => k_is)
    (case c23 => k_is)
    (case k23 => k_is)
    (case a24 => k_is)
    (case i24 => k_is)
    (case l24 => k_is)
    (case c24 => k_is)
    (case k24 => k_is)
    (case a25 => k_is)
    (case l25 => k_is)
    (case c25 => k_is)
    (case k25 => k_is)
    (case a26 => k_is)
    (case l26 => k_is)
    (case c26 => k_is)
    (case k26 => k_is)
    (case a27 => k_is)
    (case l27 => k_is)
    (case c27 => k_is)
    (case k27 => k_is)
    (case a28 => k_is)
    (case l28 => k_is)
    (case c28 => k_is)
    (case k28 => k_is)
    (case a29 => k_is)
    (case l29 => k_is)
    (case c29 => k_is)
    (case k29 => k_is)
    (case a30 => k_is)
    (case l30 => k_is)
    (case c30 => k_is)
    (case k30 => k_is)
    (case a31 => k_is)
    (case l31 => k_is)
    (case c31 => k_is)
    (case k31 => k_is)
    (case a32 => k_is)
    (case l32 => k_is)
    (case c32 => k_is)
    (case k32 => k_is)
    (case a33 => k_is)
    (case i33 => k_is)
    (case l33 => k_is)
    (case c33 => k_is)
    (case k33 => k_is)
    (case a34 => k_is)
    (case l34 => k_is)
    (case c34 => k_is)
    (case k34 => k_is)
    (case a35 => k_is)
    (case l35 => k_is)
    (case c35 => k_is)
    (case k35 => k_is)
    (case pg0 => k_is)
    (case hd0 => k_is)
    (case po0 => k_is)
    (case sa0 => k_is)
    (case mk0 => k_is)
    (case kc0 => k_is)
    (case n0_its_number => k_is)
    (case n0_its_signs => k_is)
    (case n0_its_text => k_is)
    (case n0_its_width => k_is)
    (case z_range => k_is)
    (case z_list => k_is)
    (case z_len => k_is)
    (case z_abs => k_is)
    (case z_int => k_is)
    (case z_min => k_is)
    (case z_str => k_is)
    (case z_isinstance => k_is)
    (case z_all => k_is)
    (case z_zip => k_is)
    (case z_bool => k_is)
    (case z_tuple => k_is)
    (case z_sorted => k_is)
    (case z_set => k_is)
    (case z_enumerate => k_is)
    (case z_repr => k_is)
    (case z_sum => k_is)
    (case c_LEAST_SIGNS => k_is)
    (case c_LETTERS => k_is)
    (case c_MARK => k_is)
    (case c_MOST_SIGNS => k_is)
    (case c_MOST_SIZE => k_is)
    (case c_MOST_WIDTH => k_is)
