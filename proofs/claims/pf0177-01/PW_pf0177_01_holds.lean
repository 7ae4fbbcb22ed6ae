import PyProof.Rows.All
import Wide.All
import OpenK.AllK
import Wide.FinOn
import Lean
import PySem.Challenge.RW_pf0177_01
set_option Elab.async false
set_option compiler.extract_closed false
set_option maxRecDepth 100000
set_option maxHeartbeats 8000000

section -- L1
open PySem PySem.W PyProof.Rows

namespace Mine

/-- what an object is, in one word -/
inductive Sh where
  | lst (vs : List Value)
  | tup (vs : List Value)
  | seq (vs : List Value)
  | dct (kvs : List (Str × Value))
  | att (kvs : List (Str × Value))
  | inst (C d : Addr)
  | cell (v : Option Value)
  | obj (o : Obj)

noncomputable def entOk (e : DictEntry) (kv : Str × Value) : Prop := (∃ t, e.key = .str kv.1 t) ∧ e.val = kv.2
noncomputable def entsOk : List DictEntry → List (Str × Value) → Prop
  | [], [] => True
  | e :: es, kv :: kvs => entOk e kv ∧ entsOk es kvs
  | _, _ => False

noncomputable def Sh.holds (prog : Program) (w : World) : Sh → Addr → Obj → Prop
  | .lst vs, _, o => ∃ n, o = { cls := .type "list", data := .seq vs.toArray n }
  | .seq vs, _, o => o.cls = .type "list" ∧ ∃ n, o.data = .seq vs.toArray n
  | .tup vs, _, o => ∃ n, o = { cls := .type "tuple", data := .seq vs.toArray n }
  | .dct kvs, a, o => (a == sysModules) = false ∧ o.ExactDict ∧ ∃ es ep, o.data = .dict es ep ∧ KeysOf (strKind prog w) es ∧ Pairs (strKind prog w) es.toList kvs ∧ (kvs.map (·.1)).Nodup
  | .att kvs, _, o => ∃ es n, o = dictOf es n ∧ entsOk es kvs
  | .inst C d, _, o => o = instObj C d
  | .cell v, _, o => o.data = .cell v
  | .obj o', _, o => o = o'

abbrev Led := List (Addr × Sh)
abbrev Kn := Addr → Sh → Prop

structure Cx where
  prog : Program
  w : World
  O : Heap
  A : Around
  g : Kn
  L : Addr
  s : Shared

noncomputable def Cx.sg (c : Cx) (g : Kn) : Cx := ⟨c.prog, c.w, c.O, c.A, g, c.L, c.s⟩
noncomputable def Cx.sgl (c : Cx) (g : Kn) (L : Addr) : Cx := ⟨c.prog, c.w, c.O, c.A, g, L, c.s⟩
structure St where
  m : Str → Option Value
  mu : Led

noncomputable def At (prog : Program) (w : World) (h : Heap) (a : Addr) (sh : Sh) : Prop := ∃ o, h.get? a = some o ∧ sh.holds prog w a o

structure Rel0 (prog : Program) (w : World) (O : Heap) (g : Kn) (mu : Led) (h : Heap) : Prop where
  fz : ∀ a sh, g a sh → At prog w h a sh
  led : ∀ p ∈ mu, At prog w h p.1 p.2
  nd : (mu.map (·.1)).Nodup
  dj : ∀ p ∈ mu, ∀ sh, ¬ g p.1 sh
  gr : ∀ a o, O.get? a = some o → g a (.obj o)
  up : O.objs.size ≤ h.objs.size

structure Rel (c : Cx) (st : St) (h : Heap) : Prop where
  ns : h.Ns c.L st.m
  fz : ∀ a sh, c.g a sh → At c.prog c.w h a sh
  led : ∀ p ∈ st.mu, At c.prog c.w h p.1 p.2
  nd : (st.mu.map (·.1)).Nodup
  dj : ∀ p ∈ st.mu, ∀ sh, ¬ c.g p.1 sh
  gr : ∀ a o, c.O.get? a = some o → c.g a (.obj o)
  Lmu : ∀ p ∈ st.mu, p.1 ≠ c.L
  Lg : ∀ sh, ¬ c.g c.L sh
  above : c.O.objs.size ≤ c.L

noncomputable def Post {α : Type} (c : Cx) (Q : α → St → Prop) (v : α) (s' : Shared) : Prop :=
  ∃ st h tk, s' = { c.s with heap := h, toks := tk } ∧ Rel c st h ∧ Q v st

noncomputable def Post0 (prog : Program) (w : World) (O : Heap) (g : Kn) (s : Shared) (Q : Value → Led → Prop) (v : Value) (s' : Shared) : Prop :=
  ∃ mu h tk, s' = { s with heap := h, toks := tk } ∧ Rel0 prog w O g mu h ∧ Q v mu

noncomputable def No : Value → Shared → Prop := fun _ _ => False

noncomputable def W {α : Type} (c : Cx) (t : Sem α) (Q : α → St → Prop) (st : St) : Prop :=
  ∀ h tk, Rel c st h → wpAny (model c.prog c.w) c.A t (Post c Q) No { c.s with heap := h, toks := tk + 1 }

/-- what a call needs and gives, whoever calls -/
noncomputable def CallPost (prog : Program) (w : World) (O : Heap) (g : Kn) (s : Shared) (Q : Value → Led → Prop) (r : Result) (s' : Shared) : Prop := match r with
  | .ok (.ret v) => Post0 prog w O g s Q v s'
  | _ => False
noncomputable def Calls (prog : Program) (w : World) (O : Heap) (A : Around) (f : Value) (args : List Value) (g : Kn) (mu : Led) (Q : Value → Led → Prop) : Prop :=
  ∀ (s : Shared) h tk, Rel0 prog w O g mu h → codeAny (model prog w) A (.call f ⟨args, []⟩) (CallPost prog w O g s Q) { s with heap := h, toks := tk + 1 }

section
variable {α β : Type} {c : Cx} {st : St}

theorem Post.mk {Q : α → St → Prop} {v : α} {st' : St} {h : Heap} {tk : Nat} (R : Rel c st' h) (q : Q v st') : Post c Q v { c.s with heap := h, toks := tk } := ⟨st', h, tk, rfl, R, q⟩

theorem W.at {t : Sem α} {Q : α → St → Prop} (hw : W c t Q st) {h : Heap} {tk : Nat} (R : Rel c st h) (hp : 0 < tk) : wpAny (model c.prog c.w) c.A t (Post c Q) No { c.s with heap := h, toks := tk } := by
  obtain ⟨k, rfl⟩ : ∃ k, tk = k + 1 := ⟨tk - 1, by omega⟩
  exact hw h k R
/-- from a triple to a wp with another end -/
theorem W.conv0 {t : Sem α} {Q : α → St → Prop} {Q' : α → Shared → Prop} {E : Value → Shared → Prop} (hw : W c t Q st) {h : Heap} {tk : Nat} (R : Rel c st h) (hp : 0 < tk)
    (k : ∀ v st' h' tk', Rel c st' h' → Q v st' → Q' v { c.s with heap := h', toks := tk' + 1 }) : wpAny (model c.prog c.w) c.A t Q' E { c.s with heap := h, toks := tk } :=
  wpAny_mono (wpAny_toks_of (n := 1) hp (hw.at R hp)) (fun v s' ⟨hl, st', h', tk', e, R', q⟩ => by
    subst e
    obtain ⟨j, rfl⟩ : ∃ j, tk' = j + 1 := ⟨tk' - 1, by have : 1 ≤ tk' := hl; omega⟩
    exact k v st' h' j R' q) fun _ _ f => f.2.elim
theorem W.conv {t : Sem α} {Q : α → St → Prop} {Q' : α → Shared → Prop} {E : Value → Shared → Prop} (hw : W c t Q st) {h : Heap} {tk : Nat} (R : Rel c st h)
    (k : ∀ v st' h' tk', Rel c st' h' → Q v st' → Q' v { c.s with heap := h', toks := tk' + 1 }) : wpAny (model c.prog c.w) c.A t Q' E { c.s with heap := h, toks := tk + 1 } := hw.conv0 R (Nat.succ_pos _) k

theorem W.mono {t : Sem α} {Q Q' : α → St → Prop} (hw : W c t Q st) (k : ∀ v st', Q v st' → Q' v st') : W c t Q' st :=
  fun _ _ R => hw.conv R fun _ _ _ _ R' q => .mk R' (k _ _ q)

theorem w_bind {t : Sem α} {f : α → Sem β} {Q : β → St → Prop} (hw : W c t (fun v st' => W c (f v) Q st') st) : W c (t >>= f) Q st :=
  fun _ _ R => wpAny_bind (hw.conv R fun _ _ h' tk' R' q => q h' tk' R')

theorem w_pure {v : α} {Q : α → St → Prop} (q : Q v st) : W c (pure v : Sem α) Q st := fun _ _ R => wpAny_pure (.mk R q)
theorem w_holding {vs : List Value} {t : Sem α} {Q : α → St → Prop} (hw : W c t Q st) : W c (PySem.holding vs t) Q st := fun h tk R => wpAny_holding (hw h tk R)
theorem w_standAt {p : Pos} {Q : Unit → St → Prop} (q : Q () st) : W c (PySem.standAt p) Q st := fun _ _ R => wpAny_standAt (.mk R q)
theorem w_point {Q : Unit → St → Prop} (q : Q () st) : W c PySem.point Q st := fun _ _ R => wpAny_point (.mk R q)
theorem w_rule {tag : String} {Q : Unit → St → Prop} (q : Q () st) : W c (PySem.rule tag) Q st := fun _ _ R => wpAny_rule (.mk R q)
theorem w_eq {t t' : Sem α} {Q : α → St → Prop} (e : t = t') (hw : W c t' Q st) : W c t Q st := e ▸ hw
theorem w_ite {p : Prop} [Decidable p] {a b : Sem α} {Q : α → St → Prop} (h1 : p → W c a Q st) (h2 : ¬ p → W c b Q st) : W c (if p then a else b) Q st := by
  split
  · exact h1 ‹_›
  · exact h2 ‹_›

/-- the operand wrapper -/
theorem w_operate {vs : List Value} {t : Sem Value} {Q : Value → St → Prop} (hw : W c t Q st) : W c (PySem.operate vs t) Q st := fun h tk R Γ p hΓ => by
  rw [Sem.wp_operate]; exact hw h tk R Γ p hΓ

/-! facts of a Rel -/
variable {h : Heap}

theorem At.lt {prog : Program} {w : World} {a : Addr} {sh : Sh} (x : At prog w h a sh) : a < h.objs.size := let ⟨_, e, _⟩ := x; Heap.lt_size e
theorem Rel.L_lt (R : Rel c st h) : c.L < h.objs.size := R.ns.lt
theorem Rel.ground (R : Rel c st h) {a : Addr} {o : Obj} (e : c.O.get? a = some o) : h.get? a = some o := by
  obtain ⟨o', e', q⟩ := R.fz a _ (R.gr a o e)
  have : o' = o := q
  rw [e', this]
theorem Rel.fr (R : Rel c st h) : Fr c.O c.L h st.m := ⟨R.ns, fun _ _ e => R.ground e, R.above⟩
theorem Rel.gL (R : Rel c st h) {a : Addr} {sh : Sh} (k : c.g a sh) : a ≠ c.L := fun e => R.Lg sh (e ▸ k)
theorem Rel.O_led (R : Rel c st h) {p : Addr × Sh} (hp : p ∈ st.mu) : c.O.get? p.1 = none := by
  cases e : c.O.get? p.1 with
  | none => rfl
  | some o => exact absurd (R.gr _ _ e) (R.dj p hp _)
theorem Rel.news (R : Rel c st h) {a : Addr} {sh : Sh} (hp : (a, sh) ∈ st.mu) : ∃ o, sh.holds c.prog c.w a o ∧ News c.O c.L h [(a, o)] := by
  obtain ⟨o, e, q⟩ := R.led _ hp
  refine ⟨o, q, fun p hp' => ?_⟩
  rw [List.mem_singleton.mp hp']
  exact ⟨e, R.Lmu _ hp, R.O_led hp⟩

theorem At.push {prog : Program} {w : World} {a : Addr} {sh : Sh} (x : At prog w h a sh) (o : Obj) : At prog w (h.push o) a sh := let ⟨o', e, q⟩ := x; ⟨o', Heap.get?_push_of_some _ e, q⟩
theorem At.keeps {prog : Program} {w : World} {a : Addr} {sh : Sh} {h' : Heap} (x : At prog w h a sh) (k : ∀ o, h.get? a = some o → h'.get? a = some o) : At prog w h' a sh := let ⟨o', e, q⟩ := x; ⟨o', k _ e, q⟩

/-- only the frame's own object is turned -/
theorem Rel.locals {m' : Str → Option Value} {h' : Heap} (R : Rel c st h) (hn : h'.Ns c.L m') (hk : Heap.SameBut c.L h h') : Rel c ⟨m', st.mu⟩ h' where
  ns := hn
  fz := fun a sh k => (R.fz a sh k).keeps fun o e => hk.extBut a o (R.gL k) e
  led := fun p hp => (R.led p hp).keeps fun o e => hk.extBut p.1 o (R.Lmu p hp) e
  nd := R.nd
  dj := R.dj
  gr := R.gr
  Lmu := R.Lmu
  Lg := R.Lg
  above := R.above

theorem Rel.alloc (R : Rel c st h) {o : Obj} {sh : Sh} (hs : sh.holds c.prog c.w h.objs.size o) (hf : o.isFreed = false) : Rel c ⟨st.m, (h.objs.size, sh) :: st.mu⟩ (h.push o) where
  ns := R.ns.push o
  fz := fun a sh k => (R.fz a sh k).push o
  led := fun p hp => by
    rcases List.mem_cons.mp hp with rfl | hp
    · exact ⟨o, Heap.get?_push_size _ hf, hs⟩
    · exact (R.led p hp).push o
  nd := by
    rw [List.map_cons]
    refine List.nodup_cons.mpr ⟨fun hm => ?_, R.nd⟩
    obtain ⟨p, hp, e⟩ := List.mem_map.mp hm
    exact absurd ((R.led p hp).lt) (by rw [e]; exact Nat.lt_irrefl _)
  dj := fun p hp sh' k => by
    rcases List.mem_cons.mp hp with rfl | hp
    · exact absurd (R.fz _ _ k).lt (Nat.lt_irrefl _)
    · exact R.dj p hp sh' k
  gr := R.gr
  Lmu := fun p hp => by
    rcases List.mem_cons.mp hp with rfl | hp
    · exact Nat.ne_of_gt R.L_lt
    · exact R.Lmu p hp
  Lg := R.Lg
  above := R.above

/-- an object of the ledger is turned -/
inductive Up (a : Addr) (sh sh' : Sh) : Led → Led → Prop
  | head {r : Led} : Up a sh sh' ((a, sh) :: r) ((a, sh') :: r)
  | tail {p : Addr × Sh} {r r' : Led} : Up a sh sh' r r' → Up a sh sh' (p :: r) (p :: r')
theorem Up.mem {a : Addr} {sh sh' : Sh} {l l' : Led} (u : Up a sh sh' l l') : (a, sh) ∈ l := by
  induction u with
  | head => exact .head _
  | tail _ ih => exact .tail _ ih
theorem Up.keys {a : Addr} {sh sh' : Sh} {l l' : Led} (u : Up a sh sh' l l') : l'.map (·.1) = l.map (·.1) := by
  induction u with
  | head => rfl
  | tail _ ih => rw [List.map_cons, List.map_cons, ih]
theorem Up.back {a : Addr} {sh sh' : Sh} {l l' : Led} (u : Up a sh sh' l l') (nd : (l.map (·.1)).Nodup) : ∀ p ∈ l', (p = (a, sh')) ∨ (p ∈ l ∧ p.1 ≠ a) := by
  induction u with
  | head =>
    intro p hp
    rcases List.mem_cons.mp hp with rfl | hp
    · exact .inl rfl
    · refine .inr ⟨.tail _ hp, fun e => ?_⟩
      rw [List.map_cons] at nd
      exact (List.nodup_cons.mp nd).1 (List.mem_map.mpr ⟨p, hp, e⟩)
  | @tail q r r' u ih =>
    rw [List.map_cons] at nd
    intro p hp
    rcases List.mem_cons.mp hp with rfl | hp
    · exact .inr ⟨.head _, fun e => (List.nodup_cons.mp nd).1 (e ▸ List.mem_map_of_mem (f := (·.1)) u.mem)⟩
    · rcases ih (List.nodup_cons.mp nd).2 p hp with h | h
      · exact .inl h
      · exact .inr ⟨.tail _ h.1, h.2⟩

theorem Rel.turn {h' : Heap} {a : Addr} {sh sh' : Sh} {mu' : Led} (R : Rel c st h) (u : Up a sh sh' st.mu mu') (ha : At c.prog c.w h' a sh') (hk : ∀ b o, b ≠ a → h.get? b = some o → h'.get? b = some o) : Rel c ⟨st.m, mu'⟩ h' where
  ns := R.ns.at' fun o e => hk _ o (Ne.symm (R.Lmu _ u.mem)) e
  fz := fun b sh k => (R.fz b sh k).keeps fun o e => hk b o (fun e' => R.dj _ u.mem sh (e' ▸ k)) e
  led := fun p hp => by
    rcases u.back R.nd p hp with rfl | ⟨h1, h2⟩
    · exact ha
    · exact (R.led p h1).keeps fun o e => hk _ o h2 e
  nd := by show (mu'.map (·.1)).Nodup; rw [u.keys]; exact R.nd
  dj := fun p hp sh k => by
    have : p.1 ∈ st.mu.map (·.1) := u.keys ▸ List.mem_map_of_mem hp
    obtain ⟨q, hq, e⟩ := List.mem_map.mp this
    exact R.dj q hq sh (e ▸ k)
  gr := R.gr
  Lmu := fun p hp => by
    have : p.1 ∈ st.mu.map (·.1) := u.keys ▸ List.mem_map_of_mem hp
    obtain ⟨q, hq, e⟩ := List.mem_map.mp this
    exact e ▸ R.Lmu q hq
  Lg := R.Lg
  above := R.above

/-- nothing that is known is turned -/
theorem Rel.grows {h' : Heap} (R : Rel c st h) (hk : ∀ b o, h.get? b = some o → h'.get? b = some o) : Rel c st h' where
  ns := R.ns.at' fun o e => hk _ o e
  fz := fun b sh k => (R.fz b sh k).keeps fun o e => hk b o e
  led := fun p hp => (R.led p hp).keeps fun o e => hk _ o e
  nd := R.nd
  dj := R.dj
  gr := R.gr
  Lmu := R.Lmu
  Lg := R.Lg
  above := R.above

theorem Rel.sub {mu' : Led} (R : Rel c st h) (hs : mu'.Sublist st.mu) : Rel c ⟨st.m, mu'⟩ h where
  ns := R.ns
  fz := R.fz
  led := fun p hp => R.led p (hs.subset hp)
  nd := R.nd.sublist (hs.map _)
  dj := fun p hp => R.dj p (hs.subset hp)
  gr := R.gr
  Lmu := fun p hp => R.Lmu p (hs.subset hp)
  Lg := R.Lg
  above := R.above
theorem Rel.perm {mu' : Led} (R : Rel c st h) (hs : st.mu.Perm mu') : Rel c ⟨st.m, mu'⟩ h where
  ns := R.ns
  fz := R.fz
  led := fun p hp => R.led p (hs.mem_iff.mpr hp)
  nd := (hs.map _).nodup_iff.mp R.nd
  dj := fun p hp => R.dj p (hs.mem_iff.mpr hp)
  gr := R.gr
  Lmu := fun p hp => R.Lmu p (hs.mem_iff.mpr hp)
  Lg := R.Lg
  above := R.above

theorem w_sub {t : Sem α} {Q : α → St → Prop} (mu' : Led) (hs : mu'.Sublist st.mu) (hw : W c t Q ⟨st.m, mu'⟩) : W c t Q st := fun _ _ R => hw _ _ (R.sub hs)
theorem w_perm {t : Sem α} {Q : α → St → Prop} (mu' : Led) (hs : st.mu.Perm mu') (hw : W c t Q ⟨st.m, mu'⟩) : W c t Q st := fun _ _ R => hw _ _ (R.perm hs)

/-- what is known and a part of the ledger, as known -/
noncomputable def ext (g : Kn) (fr : Led) : Kn := fun a sh => g a sh ∨ (a, sh) ∈ fr

theorem Rel.freeze {m : Str → Option Value} {fr mu : Led} (R : Rel c ⟨m, fr ++ mu⟩ h) : Rel (c.sg (ext c.g fr)) ⟨m, mu⟩ h where
  ns := R.ns
  fz := fun a sh k => k.elim (R.fz a sh) fun hm => R.led (a, sh) (List.mem_append_left _ hm)
  led := fun p hp => R.led p (List.mem_append_right _ hp)
  nd := by
    have := R.nd
    rw [List.map_append] at this
    exact (List.nodup_append.mp this).2.1
  dj := fun p hp sh k => k.elim (R.dj p (List.mem_append_right _ hp) sh) fun hm => by
    have := R.nd
    rw [List.map_append] at this
    exact (List.nodup_append.mp this).2.2 p.1 (List.mem_map.mpr ⟨_, hm, rfl⟩) p.1 (List.mem_map.mpr ⟨_, hp, rfl⟩) rfl
  gr := fun a o e => .inl (R.gr a o e)
  Lmu := fun p hp => R.Lmu p (List.mem_append_right _ hp)
  Lg := fun sh k => k.elim (R.Lg sh) fun hm => R.Lmu _ (List.mem_append_left _ hm) rfl
  above := R.above

theorem Rel.thaw {m : Str → Option Value} {fr mu : Led} {st' : St} {h' : Heap} (R : Rel c ⟨m, fr ++ mu⟩ h) (R' : Rel (c.sg (ext c.g fr)) st' h') : Rel c ⟨st'.m, fr ++ st'.mu⟩ h' where
  ns := R'.ns
  fz := fun a sh k => R'.fz a sh (.inl k)
  led := fun p hp => (List.mem_append.mp hp).elim (fun hm => R'.fz p.1 p.2 (.inr hm)) (R'.led p)
  nd := by
    show ((fr ++ st'.mu).map (·.1)).Nodup
    have n1 := R.nd
    rw [List.map_append] at n1 ⊢
    refine List.nodup_append.mpr ⟨(List.nodup_append.mp n1).1, R'.nd, fun a ha b hb e => ?_⟩
    obtain ⟨p, hp, rfl⟩ := List.mem_map.mp ha
    obtain ⟨q, hq, rfl⟩ := List.mem_map.mp hb
    exact R'.dj q hq p.2 (.inr (by rw [← e]; exact hp))
  dj := fun p hp sh k => (List.mem_append.mp hp).elim (fun hm => R.dj p (List.mem_append_left _ hm) sh k) fun hm => R'.dj p hm sh (.inl k)
  gr := R.gr
  Lmu := fun p hp => (List.mem_append.mp hp).elim (fun hm => R.Lmu p (List.mem_append_left _ hm)) (R'.Lmu p)
  Lg := R.Lg
  above := R.above

/-- the frame rule: a part of the ledger that is only read -/
theorem w_freeze {m : Str → Option Value} {fr mu : Led} {t : Sem α} {Q : α → St → Prop} (hw : W (c.sg (ext c.g fr)) t (fun v st' => Q v ⟨st'.m, fr ++ st'.mu⟩) ⟨m, mu⟩) : W c t Q ⟨m, fr ++ mu⟩ :=
  fun _ _ R => (hw.conv (c := (c.sg (ext c.g fr))) R.freeze fun _ _ _ _ R' q => .mk (R.thaw R') q)

theorem Rel.forCall {m : Str → Option Value} {mu rest : Led} (R : Rel c ⟨m, mu ++ rest⟩ h) {oL : Obj} (e : h.get? c.L = some oL) : Rel0 c.prog c.w c.O (ext c.g ((c.L, .obj oL) :: rest)) mu h where
  fz := fun a sh k => k.elim (R.fz a sh) fun hm => by
    rcases List.mem_cons.mp hm with q | hm
    · cases q; exact ⟨oL, e, rfl⟩
    · exact R.led (a, sh) (List.mem_append_right _ hm)
  led := fun p hp => R.led p (List.mem_append_left _ hp)
  nd := by
    have n1 := R.nd
    rw [List.map_append] at n1
    exact (List.nodup_append.mp n1).1
  dj := fun p hp sh k => k.elim (R.dj p (List.mem_append_left _ hp) sh) fun hm => by
    rcases List.mem_cons.mp hm with q | hm
    · exact R.Lmu p (List.mem_append_left _ hp) (Prod.mk.inj q).1
    · have n1 := R.nd
      rw [List.map_append] at n1
      exact (List.nodup_append.mp n1).2.2 p.1 (List.mem_map.mpr ⟨_, hp, rfl⟩) p.1 (List.mem_map.mpr ⟨_, hm, rfl⟩) rfl
  gr := fun a o e => .inl (R.gr a o e)
  up := Nat.le_trans R.above (Nat.le_of_lt R.L_lt)
theorem Rel.fromCall {m : Str → Option Value} {mu mu' rest : Led} {h' : Heap} (R : Rel c ⟨m, mu ++ rest⟩ h) {oL : Obj} (e : h.get? c.L = some oL) (R' : Rel0 c.prog c.w c.O (ext c.g ((c.L, .obj oL) :: rest)) mu' h') : Rel c ⟨m, mu' ++ rest⟩ h' where
  ns := R.ns.at' fun o eo => by
    obtain ⟨o', e', q⟩ := R'.fz c.L (.obj oL) (.inr (.head _))
    rw [e] at eo
    have q' : o' = oL := q
    rw [e', q', eo]
  fz := fun a sh k => R'.fz a sh (.inl k)
  led := fun p hp => (List.mem_append.mp hp).elim (R'.led p) fun hm => R'.fz p.1 p.2 (.inr (.tail _ hm))
  nd := by
    have n1 := R.nd
    show ((mu' ++ rest).map (·.1)).Nodup
    rw [List.map_append] at n1 ⊢
    refine List.nodup_append.mpr ⟨R'.nd, (List.nodup_append.mp n1).2.1, fun a ha b hb e => ?_⟩
    obtain ⟨p, hp, rfl⟩ := List.mem_map.mp ha
    obtain ⟨q, hq, rfl⟩ := List.mem_map.mp hb
    exact R'.dj p hp q.2 (.inr (.tail _ (by rw [e]; exact hq)))
  dj := fun p hp sh k => (List.mem_append.mp hp).elim (fun hm => R'.dj p hm sh (.inl k)) fun hm => R.dj p (List.mem_append_right _ hm) sh k
  gr := R.gr
  Lmu := fun p hp => (List.mem_append.mp hp).elim (fun hm e' => R'.dj p hm (.obj oL) (.inr (by rw [e']; exact .head _))) fun hm => R.Lmu p (List.mem_append_right _ hm)
  Lg := R.Lg
  above := R.above

/-- a call, by what the callee needs and gives -/
theorem w_call {m : Str → Option Value} {mu rest : Led} {f : Value} {args : List Value} {Q : Value → St → Prop} (Q0 : Value → Led → Prop)
    (hs : ∀ g' : Kn, (∀ a sh, c.g a sh → g' a sh) → (∀ p ∈ rest, g' p.1 p.2) → Calls c.prog c.w c.O c.A f args g' mu Q0)
    (k : ∀ v mu', Q0 v mu' → Q v ⟨m, mu' ++ rest⟩) : W c (PySem.call f args) Q ⟨m, mu ++ rest⟩ := fun h tk R => by
  obtain ⟨oL, _, _, e, _⟩ := id R.ns
  refine wpAny_call (codeAny_mono (hs _ (fun a sh k => .inl k) (fun p hp => .inr (.tail _ hp)) c.s h tk (R.forCall e)) fun r s' hq => ?_)
  cases r with
  | error x => exact hq.elim
  | ok f =>
    cases f with
    | ret v =>
      obtain ⟨mu', h', tk', rfl, R', q⟩ := hq
      exact .mk (R.fromCall e R') (k v mu' q)
    | _ => exact hq.elim

/-- a call that turns nothing and gives a plain value -/
theorem w_callPure {f : Value} {args : List Value} {Q : Value → St → Prop} (Q0 : Value → Prop)
    (hs : ∀ g' : Kn, (∀ a sh, c.g a sh → g' a sh) → (∀ p ∈ st.mu, g' p.1 p.2) → Calls c.prog c.w c.O c.A f args g' [] (fun v _ => Q0 v))
    (k : ∀ v, Q0 v → Q v st) : W c (PySem.call f args) Q st :=
  fun h tk R => (w_call (mu := []) (rest := st.mu) (Q := fun v st' => ∃ l, st' = ⟨st.m, l ++ st.mu⟩ ∧ Q0 v) _ hs (fun v mu' q => ⟨mu', rfl, q⟩)).conv R
    fun v st' _ _ R' ⟨_, e, q⟩ => .mk ((e ▸ R').sub (List.sublist_append_right _ _)) (k v q)

noncomputable def flowVal : Flow → Value
  | .ret v => v
  | _ => .none

noncomputable def ofBinds : List (Str × Value) → Str → Option Value
  | [] => fun _ => none
  | (x, v) :: r => fun y => if y = x then some v else ofBinds r y
theorem ofBinds_eq : ∀ l : List (Str × Value), ofBinds l = fun y => l.lookup y
  | [] => rfl
  | (x, v) :: r => by
    funext y
    rw [ofBinds, List.lookup_cons, ofBinds_eq r]
    by_cases h : y = x
    · subst h; simp
    · have : (y == x) = false := by simpa using h
      simp [h, this]

theorem Rel0.enter {O : Heap} {g : Kn} {mu : Led} {h h₁ : Heap} {prog : Program} {w : World} {A : Around} {s : Shared} {m : Str → Option Value} (R : Rel0 prog w O g mu h) (hn : h₁.Ns h.objs.size m)
    (hk : ∀ b o, h.get? b = some o → h₁.get? b = some o) : Rel ⟨prog, w, O, A, g, h.objs.size, s⟩ ⟨m, mu⟩ h₁ where
  ns := hn
  fz := fun a sh k => (R.fz a sh k).keeps fun o e => hk _ o e
  led := fun p hp => (R.led p hp).keeps fun o e => hk _ o e
  nd := R.nd
  dj := R.dj
  gr := R.gr
  Lmu := fun p hp => Nat.ne_of_lt (R.led p hp).lt
  Lg := fun sh k => absurd (R.fz _ _ k).lt (Nat.lt_irrefl _)
  above := R.up
theorem Rel.leave {O : Heap} {g : Kn} {h : Heap} {st : St} (R : Rel c st h) (e1 : c.O = O) (e2 : c.g = g) : Rel0 c.prog c.w O g st.mu h := by
  subst e1 e2
  exact ⟨R.fz, R.led, R.nd, R.dj, R.gr, Nat.le_trans R.above (Nat.le_of_lt R.ns.lt)⟩

theorem Calls.def {prog : Program} {w : World} {O : Heap} {A : Around} {g : Kn} {mu : Led} {Q : Value → Led → Prop} {f : Addr} {args : List Value}
    {oc : Value} {od : Option Addr} {osl : Array (Option Value)} {name qual : Str} {params : Arguments} {body : List Stmt} {scope : Scope} {dV kV doc pm cdv ct : Value} {an : Option Addr} {binds : List (Str × Value)}
    (hl : O.NoLimit) (hroom : A.depth < recursionLimit)
    (ho : O.get? f = some ⟨oc, od, .func (fnOf name qual params body scope dV kV doc pm an cdv ct), osl⟩) (hcd : O.CodeRec cdv qual)
    (hbind : ∀ s : Shared, (∀ a o, O.get? a = some o → s.heap.get? a = some o) → BindsTo s (fnOf name qual params body scope dV kV doc pm an cdv ct) ⟨args, []⟩ binds)
    (hloc : ∀ y ∈ binds, scope.names.lookup y.1 = some .local)
    (hw : ∀ L s, W ⟨prog, w, O, A.deeper (envOf qual scope L f cdv), g, L, s⟩ (execs body (envOf qual scope L f cdv)) (fun fl st' => Q (flowVal fl) st'.mu) ⟨ofBinds binds.reverse, mu⟩)
    (hco : scope.isCoroutine = false) (hgen : scope.isGenerator = false) (hk : scope.kind = .function)
    (hcell : ∀ x ∈ scope.names, x.2 ≠ .cell) : Calls prog w O A (.ref f) args g mu Q := by
  intro s h tk R
  have gr : ∀ a o, O.get? a = some o → h.get? a = some o := fun a o e => by
    obtain ⟨o', e', q⟩ := R.fz a _ (R.gr a o e)
    have : o' = o := q
    rw [e', this]
  refine codeAny_call_def (fd := fnOf name qual params body scope dV kV doc pm an cdv ct) (body := body) (binds := binds) hroom (gr _ _ ho) rfl (hl.keeps gr) (hcd.keeps gr) rfl (hbind _ gr) hcell hloc (fun h₁ hns hk₁ => ?_) hco hgen hk
  rw [← ofBinds_eq] at hns
  exact (hw h.objs.size s).conv0 (R.enter hns hk₁) (Nat.lt_of_lt_of_le (Nat.succ_pos tk) (Nat.le_add_right _ _)) fun fl st' h' tk' R' q => ⟨st'.mu, h', tk' + 1, rfl, R'.leave rfl rfl, q⟩

/-- the cells of a frame, as its ledger's head -/
noncomputable def cellLed (cm : Str → Option Value) (cs : List (Str × Addr)) : Led := cs.map fun p => (p.2, .cell (cm p.1))

theorem cells_nodup {names : List (Str × NameKind)} : ∀ {n : Nat} {acc : List (Str × Addr)}, (acc.map (·.2)).Nodup → (∀ p ∈ acc, p.2 < n) → ((cellsFrom n names acc).map (·.2)).Nodup := by
  induction names with
  | nil => intro n acc h _; exact h
  | cons x r ih =>
    obtain ⟨y, k⟩ := x
    intro n acc h hl
    unfold cellsFrom
    split
    · refine ih ?_ fun p hp => ?_
      · rw [List.map_cons]
        refine List.nodup_cons.mpr ⟨fun hm => ?_, h⟩
        obtain ⟨p, hp, e⟩ := List.mem_map.mp hm
        exact absurd (hl p hp) (by rw [e]; exact Nat.lt_irrefl _)
      · rcases List.mem_cons.mp hp with rfl | hp
        · exact Nat.lt_succ_self _
        · exact Nat.lt_succ_of_lt (hl p hp)
    · exact ih h hl

theorem Calls.defC {prog : Program} {w : World} {O : Heap} {A : Around} {g : Kn} {mu : Led} {Q : Value → Led → Prop} {f : Addr} {args : List Value}
    {oc : Value} {od : Option Addr} {osl : Array (Option Value)} {name qual : Str} {params : Arguments} {body : List Stmt} {scope : Scope} {dV kV doc pm cdv ct : Value} {an : Option Addr} {binds : List (Str × Value)}
    (hl : O.NoLimit) (hroom : A.depth < recursionLimit)
    (ho : O.get? f = some ⟨oc, od, .func (fnOf name qual params body scope dV kV doc pm an cdv ct), osl⟩) (hcd : O.CodeRec cdv qual)
    (hbind : ∀ s : Shared, (∀ a o, O.get? a = some o → s.heap.get? a = some o) → BindsTo s (fnOf name qual params body scope dV kV doc pm an cdv ct) ⟨args, []⟩ binds)
    (hkind : (binds.all fun y => scope.names.lookup y.1 == some .local || scope.names.lookup y.1 == some .cell) = true)
    (hnd : ((cellsFrom 0 scope.names []).map (·.1)).Nodup)
    (hw : ∀ L s, W ⟨prog, w, O, A.deeper (envOfC qual scope L f cdv), g, L, s⟩ (execs body (envOfC qual scope L f cdv)) (fun fl st' => Q (flowVal fl) st'.mu)
      ⟨bindL (fun x => scope.names.lookup x) binds fun _ => none, cellLed (bindC (fun x => scope.names.lookup x) binds fun _ => none) (cellsFrom (L + 1) scope.names []) ++ mu⟩)
    (hco : scope.isCoroutine = false) (hgen : scope.isGenerator = false) (hk : scope.kind = .function) : Calls prog w O A (.ref f) args g mu Q := by
  intro s h tk R
  have gr : ∀ a o, O.get? a = some o → h.get? a = some o := fun a o e => by
    obtain ⟨o', e', q⟩ := R.fz a _ (R.gr a o e)
    have : o' = o := q
    rw [e', this]
  refine codeAny_call_function hroom (gr _ _ ho) rfl hco hgen rfl (hcd.keeps gr) (hbind _ gr _ _ _ _ ?_)
  refine wpAny_with_toks (n := 1) (Nat.succ_le_succ (Nat.zero_le _)) (wpAny_newFunctionEnv_cells hk (kindsX hkind _) fun env' he s' x htk => ?_)
  subst he
  refine ⟨(hl.keeps gr).keeps x.toInCall.keep, codeAny_func ?_⟩
  obtain ⟨h₁, tk₁, rfl, _⟩ := x.done
  have hk₁ := x.toInCall.keep
  have R₁ : Rel ⟨prog, w, O, A.deeper (envOfC qual scope h.objs.size f cdv), g, h.objs.size, s⟩ ⟨bindL (fun x => scope.names.lookup x) binds fun _ => none, mu⟩ h₁ := R.enter x.toInCall.ns hk₁
  have nn : ((cellsFrom (h.objs.size + 1) scope.names []).map (·.1)).Nodup := cellsFrom_names scope.names 0 (h.objs.size + 1) [] [] rfl ▸ hnd
  have R₂ : Rel ⟨prog, w, O, A.deeper (envOfC qual scope h.objs.size f cdv), g, h.objs.size, s⟩
      ⟨bindL (fun x => scope.names.lookup x) binds fun _ => none, cellLed (bindC (fun x => scope.names.lookup x) binds fun _ => none) (cellsFrom (h.objs.size + 1) scope.names []) ++ mu⟩ h₁ := by
    have mem : ∀ p ∈ cellLed (bindC (fun x => scope.names.lookup x) binds fun _ => none) (cellsFrom (h.objs.size + 1) scope.names []), At prog w h₁ p.1 p.2 ∧ h.objs.size < p.1 := by
      intro p hp
      obtain ⟨⟨n, a⟩, hq, rfl⟩ := List.mem_map.mp hp
      obtain ⟨o, e, q⟩ := x.cell n a (lookup_of_mem_nodup nn hq)
      exact ⟨⟨o, e, q⟩, x.above n a hq⟩
    refine ⟨R₁.ns, R₁.fz, fun p hp => ?_, ?_, fun p hp sh k => ?_, R₁.gr, fun p hp => ?_, R₁.Lg, R₁.above⟩
    · exact (List.mem_append.mp hp).elim (fun hm => (mem p hm).1) (R₁.led p)
    · show ((_ ++ mu).map (·.1)).Nodup
      rw [List.map_append]
      refine List.nodup_append.mpr ⟨?_, R.nd, fun a ha b hb e => ?_⟩
      · show ((cellLed _ _).map (·.1)).Nodup
        unfold cellLed
        rw [List.map_map]
        exact cells_nodup (acc := []) List.nodup_nil (fun _ hp => nomatch hp)
      · obtain ⟨p, hp, rfl⟩ := List.mem_map.mp ha
        obtain ⟨q, hq, rfl⟩ := List.mem_map.mp hb
        exact absurd (Nat.lt_trans (mem p hp).2 (by rw [e]; exact (R.led q hq).lt)) (Nat.lt_irrefl _)
    · exact (List.mem_append.mp hp).elim (fun hm => absurd (Nat.lt_trans (mem p hm).2 (R.fz _ _ k).lt) (Nat.lt_irrefl _)) fun hm => R.dj p hm sh k
    · exact (List.mem_append.mp hp).elim (fun hm => Nat.ne_of_gt (mem p hm).2) (R₁.Lmu p)
  exact (hw h.objs.size s).conv0 R₂ htk fun fl st' h' tk' R' q => ⟨st'.mu, h', tk' + 1, rfl, R'.leave rfl rfl, q⟩
end

end Mine
end -- L1

section -- L2
open PySem PySem.W PySem.Calls PyProof.Rows

namespace Mine
section
variable {c : Cx} {st : St} {env : Env}

theorem w_cStr {x : Str} {k pos} {Q : Value → St → Prop} (q : ∀ t, Q (.str x t) st) : W c (eval (.Constant (.str x) k pos) env) Q st := fun _ _ R => wpAny_Constant_str (.mk R (q _))
theorem w_cInt {i : Int} {k pos} {Q : Value → St → Prop} (q : ∀ t, Q (.int i t) st) : W c (eval (.Constant (.int i) k pos) env) Q st := fun _ _ R => wpAny_Constant_int (.mk R (q _))
theorem w_cBool {b : Bool} {k pos} {Q : Value → St → Prop} (q : Q (.bool b) st) : W c (eval (.Constant (.bool b) k pos) env) Q st := fun _ _ R => wpAny_Constant_bool (.mk R q)
theorem w_cNone {k pos} {Q : Value → St → Prop} (q : Q .none st) : W c (eval (.Constant .none k pos) env) Q st := fun _ _ R => wpAny_Constant_none (.mk R q)

/-! names -/
theorem w_name {x : Str} {pos : Pos} {v : Value} {Q : Value → St → Prop} (hv : st.m x = some v) (q : Q v st) (hL : env.locals = c.L := by rfl) (hk : env.scope.kind = .function := by rfl)
    (hx : env.kindOf x = some .local := by rfl) (hd : (x == ("__debug__" : Str)) = false := by decide +kernel) : W c (eval (.Name x pos) env) Q st :=
  fun _ _ R => wpAny_Name (wpAny_loadName_local hk hx (hL ▸ R.ns) hv (.mk R q)) hd

/-- what the top's names are -/
structure Gnd (K : Frag) (O : Heap) (mg mb : Str → Option Value) : Prop where
  X : K.In O
  g : O.Ns mainGlobals mg
  b : O.Ns builtinsNs mb
  nolimit : O.NoLimit
  builtins : ∀ x : Str, x ≠ "__name__" → mb x = bootBuiltins x

theorem w_nameG {K : Frag} {mg mb : Str → Option Value} {x : Str} {pos : Pos} {v : Value} {Q : Value → St → Prop} (G : Gnd K c.O mg mb) (hv : mg x = some v) (q : Q v st) (hg : env.globals = mainGlobals := by rfl) (hk : env.scope.kind = .function := by rfl)
    (hx : env.kindOf x = some .globalImplicit := by rfl) (hd : (x == ("__debug__" : Str)) = false := by decide +kernel) : W c (eval (.Name x pos) env) Q st :=
  fun _ _ R => Name_function_global hk hx (loadGlobal_global (env := env) (by rw [hg]; exact G.g.keeps fun _ _ e => R.ground e) hv (.mk R q)) hd
theorem w_nameB {K : Frag} {mg mb : Str → Option Value} {x : Str} {pos : Pos} {v : Value} {Q : Value → St → Prop} (G : Gnd K c.O mg mb) (hn : mg x = none) (hv : bootBuiltins x = some v) (q : Q v st) (hm : x ≠ "__name__" := by decide +kernel)
    (hg : env.globals = mainGlobals := by rfl) (hb : env.builtins = builtinsNs := by rfl) (hk : env.scope.kind = .function := by rfl)
    (hx : env.kindOf x = some .globalImplicit := by rfl) (hd : (x == ("__debug__" : Str)) = false := by decide +kernel) : W c (eval (.Name x pos) env) Q st :=
  fun _ _ R => Name_function_global hk hx (loadGlobal_builtin (env := env) (by rw [hg]; exact G.g.keeps fun _ _ e => R.ground e) hn (by rw [hb]; exact G.b.keeps fun _ _ e => R.ground e) ((G.builtins x hm).trans hv) (.mk R q)) hd

/-- what is known: frozen, or in the ledger -/
noncomputable def kn (c : Cx) (st : St) (a : Addr) (sh : Sh) : Prop := c.g a sh ∨ (a, sh) ∈ st.mu
theorem Rel.know {h : Heap} (R : Rel c st h) {a : Addr} {sh : Sh} (k : kn c st a sh) : At c.prog c.w h a sh := k.elim (R.fz a sh) (R.led (a, sh))

theorem w_nameC {x : Str} {pos : Pos} {v : Value} {a : Addr} {Q : Value → St → Prop} (hc : env.cells.lookup x = some a) (ha : kn c st a (.cell (some v))) (q : Q v st) (hk : env.scope.kind = .function := by rfl)
    (hx : env.kindOf x = some .cell := by rfl) (hd : (x == ("__debug__" : Str)) = false := by decide +kernel) : W c (eval (.Name x pos) env) Q st :=
  fun _ _ R => wpAny_Name (wpAny_loadName_cell hk hx hc (R.know ha) (.mk R q)) hd
theorem w_nameF {x : Str} {pos : Pos} {v : Value} {a : Addr} {Q : Value → St → Prop} (hc : env.cells.lookup x = some a) (ha : kn c st a (.cell (some v))) (q : Q v st) (hk : env.scope.kind = .function := by rfl)
    (hx : env.kindOf x = some .free := by rfl) (hd : (x == ("__debug__" : Str)) = false := by decide +kernel) (hn : (x == ("__classdict__" : Str)) = false := by decide +kernel) : W c (eval (.Name x pos) env) Q st :=
  fun _ _ R => wpAny_Name (wpAny_loadName_free hk hx hc (R.know ha) (.mk R q) hn) hd

theorem w_store {x : Str} {v : Value} {Q : Unit → St → Prop} (q : Q () ⟨fun y => if y = x then some v else st.m y, st.mu⟩) (hL : env.locals = c.L := by rfl) (hk : env.scope.kind = .function := by rfl)
    (hx : env.kindOf x = some .local := by rfl) : W c (storeName env x v) Q st :=
  fun _ _ R => wpAny_storeName_local hx (hL ▸ R.ns) (fun _ hn hs => .mk (R.locals (hL ▸ hn) (hL ▸ hs)) q) (by rw [hk]; rfl)
theorem w_storeC {m : Str → Option Value} {mu : Led} {x : Str} {v : Value} {v₀ : Option Value} {a : Addr} {mu' : Led} {Q : Unit → St → Prop} (hc : env.cells.lookup x = some a) (u : Up a (.cell v₀) (.cell (some v)) mu mu') (q : Q () ⟨m, mu'⟩)
    (hk : env.scope.kind = .function := by rfl) (hx : env.kindOf x = some .cell := by rfl) : W c (storeName env x v) Q ⟨m, mu⟩ :=
  fun _ _ R => wpAny_storeName_cell hk hx hc (R.led _ u.mem) fun _ hv hs => .mk (R.turn u hv fun b _ hb e => hs.extBut b _ hb e) q

/-! expressions -/
theorem w_binop {l op r pos} {Q : Value → St → Prop} (hw : W c (eval l env) (fun a st₁ => W c (eval r env) (fun b st₂ => W c (binaryOp op a b) Q st₂) st₁) st) : W c (eval (.BinOp l op r pos) env) Q st :=
  fun _ _ R => wpAny_BinOp (hw.conv R fun _ _ _ _ R₁ q₁ => q₁.conv R₁ fun _ _ h tk R₂ q₂ => q₂ h tk R₂)
theorem w_unop {op x pos} {Q : Value → St → Prop} (hw : W c (eval x env) (fun a st₁ => W c (unaryOp op a) Q st₁) st) : W c (eval (.UnaryOp op x pos) env) Q st :=
  fun _ _ R => UnaryOp_ (hw.conv R fun _ _ h tk R₁ q₁ => q₁ h tk R₁)
theorem w_cmp {l op r pos} {Q : Value → St → Prop} (hw : W c (eval l env) (fun a st₁ => W c (eval r env) (fun b st₂ => W c (compareOp op a b) Q st₂) st₁) st) (hm : behindInMarks op r = false := by rfl) : W c (eval (.Compare l [op] [r] pos) env) Q st :=
  fun _ _ R => wpAny_Compare1 (hw.conv R fun _ _ _ _ R₁ q₁ => q₁.conv R₁ fun _ _ h tk R₂ q₂ => q₂ h tk R₂) hm
theorem w_tcmp {l op r pos whole} {Q : Bool → St → Prop} (hw : W c (eval l env) (fun a st₁ => W c (eval r env) (fun b st₂ => W c (compareOp op a b) (fun v st₃ => W c (truthy v) Q st₃) st₂) st₁) st) (hm : behindInMarks op r = false := by rfl) :
    W c (isTrue (.Compare l [op] [r] pos) env whole) Q st :=
  fun _ _ R => wpAny_isTrue_Compare1 (hw.conv R fun _ _ _ _ R₁ q₁ => q₁.conv R₁ fun _ _ _ _ R₂ q₂ => q₂.conv R₂ fun _ _ h tk R₃ q₃ => q₃ h tk R₃) hm
theorem w_ifexp {test body orelse pos} {Q : Value → St → Prop} (hw : W c (isTrue test env (eval test env)) (fun b st₁ => if b then W c (eval body env) Q st₁ else W c (eval orelse env) Q st₁) st) : W c (eval (.IfExp test body orelse pos) env) Q st :=
  fun _ _ R => wpAny_IfExp (hw.conv R fun b _ h tk R₁ q₁ => by cases b <;> exact q₁ h tk R₁)
theorem w_tnot {x pos whole} {Q : Bool → St → Prop} (hw : W c (isTrue x env (eval x env)) (fun b st₁ => Q (!b) st₁) st) : W c (isTrue (.UnaryOp .Not x pos) env whole) Q st :=
  fun _ _ R => isTrue_not (hw.conv R fun _ _ _ _ R₁ q₁ => .mk R₁ q₁)
theorem w_tandNil {pos whole} {Q : Bool → St → Prop} (q : Q true st) : W c (isTrue (.BoolOp .And [] pos) env whole) Q st := fun _ _ R => isTrue_and_nil (.mk R q)
theorem w_torNil {pos whole} {Q : Bool → St → Prop} (q : Q false st) : W c (isTrue (.BoolOp .Or [] pos) env whole) Q st := fun _ _ R => isTrue_or_nil (.mk R q)
theorem w_tand {x rest pos whole} {Q : Bool → St → Prop} (hw : W c (isTrue x env (eval x env)) (fun b st₁ => if b then W c (isTrue (.BoolOp .And rest pos) env whole) Q st₁ else Q false st₁) st) : W c (isTrue (.BoolOp .And (x :: rest) pos) env whole) Q st :=
  fun _ _ R => isTrue_and (hw.conv R fun b _ h tk R₁ q₁ => by cases b; exact .mk R₁ q₁; exact q₁ h tk R₁)
theorem w_tor {x rest pos whole} {Q : Bool → St → Prop} (hw : W c (isTrue x env (eval x env)) (fun b st₁ => if b then Q true st₁ else W c (isTrue (.BoolOp .Or rest pos) env whole) Q st₁) st) : W c (isTrue (.BoolOp .Or (x :: rest) pos) env whole) Q st :=
  fun _ _ R => isTrue_or (hw.conv R fun b _ h tk R₁ q₁ => by cases b; exact q₁ h tk R₁; exact .mk R₁ q₁)
theorem w_tplain {e : Expr} {whole : Sem Value} {Q : Bool → St → Prop} (hw : W c whole (fun v st₁ => W c (truthy v) Q st₁) st) (he : isTrue e env whole = (do let v ← whole; standAt e.pos; holding [v] (truthy v)) := by rfl) : W c (isTrue e env whole) Q st :=
  fun _ _ R => isTrue_plain (hw.conv R fun _ _ h tk R₁ q₁ => q₁ h tk R₁) he
theorem w_truthyBool {b : Bool} {Q : Bool → St → Prop} (q : Q b st) : W c (truthy (.bool b)) Q st := fun _ _ R => wpAny_truthy_bool (.mk R q)
theorem w_tchain {l op₁ op₂ ops r₁ r₂ rs pos whole} {Q : Bool → St → Prop}
    (hw : W c (eval l env) (fun a st₁ => W c (testChain pos a (op₁ :: op₂ :: ops) (eval r₁ env :: eval r₂ env :: evalEach rs env)) Q st₁) st)
    (hm : lastMarks (op₁ :: op₂ :: ops) (r₁ :: r₂ :: rs) = false := by with_unfolding_all rfl) : W c (isTrue (.Compare l (op₁ :: op₂ :: ops) (r₁ :: r₂ :: rs) pos) env whole) Q st :=
  fun _ _ R => isTrue_chain (hw.conv R fun _ _ h tk R₁ q₁ => q₁ h tk R₁) hm
theorem w_tlink {pos : Pos} {a : Value} {op op' : CmpOp} {ops : List CmpOp} {r r' : Sem Value} {rs : List (Sem Value)} {Q : Bool → St → Prop}
    (hw : W c r (fun b st₁ => W c (compareOp op a b) (fun v st₂ => W c (truthy v) (fun t st₃ => if t then W c (testChain pos b (op' :: ops) (r' :: rs)) Q st₃ else Q false st₃) st₂) st₁) st) :
    W c (testChain pos a (op :: op' :: ops) (r :: r' :: rs)) Q st := by
  show W c (do
    let rv ← PySem.holding [a] r
    PySem.standAt pos
    let x ← PySem.holding [a, rv] (compareOp op a rv)
    release [a, rv] [x]
    if ← PySem.holding [x, rv] (truthy x) then testChain pos rv (op' :: ops) (r' :: rs) else pure false) Q st
  refine w_bind (w_holding (hw.mono fun b st₁ h₁ => w_bind (w_standAt (w_bind (w_holding (h₁.mono fun v st₂ h₂ => w_bind ?_))))))
  intro h tk R
  refine wpAny_release' (.mk R (w_bind (w_holding (h₂.mono fun t st₃ h₃ => ?_))))
  cases t with
  | false => exact w_pure h₃
  | true => exact h₃
theorem w_tlast {pos : Pos} {a : Value} {op : CmpOp} {r : Sem Value} {Q : Bool → St → Prop}
    (hw : W c r (fun b st₁ => W c (compareOp op a b) (fun v st₂ => W c (truthy v) Q st₂) st₁) st) : W c (testChain pos a [op] [r]) Q st := by
  show W c (do
    let rv ← PySem.holding [a] r
    PySem.standAt pos
    let x ← PySem.operate [a, rv] (compareOp op a rv)
    PySem.holding [x] (truthy x)) Q st
  exact w_bind (w_holding (hw.mono fun b st₁ h₁ => w_bind (w_standAt (w_bind (w_operate (h₁.mono fun v st₂ h₂ => w_holding h₂))))))
theorem w_attr {value : Expr} {attr : Str} {pos : Pos} {Q : Value → St → Prop} (hw : W c (eval value env) (fun o st₁ => W c (getAttr o attr true) Q st₁) st)
    (he : eval (.Attribute value attr pos) env = (do
      let o ← eval value env
      PySem.standAt pos.atName
      let r ← PySem.holding [o] (getAttr o attr true)
      letTemporaryGo value o r
      pure r) := by with_unfolding_all rfl) : W c (eval (.Attribute value attr pos) env) Q st :=
  fun _ _ R => Attribute_any_ (hw.conv R fun _ _ h tk R₁ q₁ => q₁ h tk R₁) he
theorem w_subscript {value slice pos} {Q : Value → St → Prop} (hw : W c (eval value env) (fun o st₁ => W c (eval slice env) (fun i st₂ => W c (subscriptTail value slice o i) Q st₂) st₁) st) : W c (eval (.Subscript value slice pos) env) Q st :=
  fun _ _ R => Subscript_ (hw.conv R fun _ _ _ _ R₁ q₁ => q₁.conv R₁ fun _ _ h tk R₂ q₂ => q₂ h tk R₂)

/-! argument lists, displays -/
theorem w_splNil {pos : Pos} {Q : List Value → St → Prop} (q : Q [] st) : W c (spliced (backTo pos (starEach [] env))) Q st := fun _ _ R => spliced_none (.mk R q)
theorem w_splCons {e : Expr} {rest : List Expr} {pos : Pos} {Q : List Value → St → Prop} (hw : W c (eval e env) (fun v st₁ => W c (spliced (backTo pos (starEach rest env))) (fun vs st₂ => Q (v :: vs) st₂) st₁) st)
    (he : starEach (e :: rest) env = (false, eval e env) :: starEach rest env := by rfl) : W c (spliced (backTo pos (starEach (e :: rest) env))) Q st :=
  fun _ _ R => spliced_more (hw.conv R fun _ _ _ _ R₁ q₁ => q₁.conv R₁ fun _ _ _ _ R₂ q₂ => .mk R₂ q₂) he
theorem w_newTuple {m : Str → Option Value} {mu : Led} {vs : List Value} {Q : Value → St → Prop} (q : ∀ a, Q (.ref a) ⟨m, (a, .tup vs) :: mu⟩) (hsz : vs.length ≤ sizeLine := by size_fits) : W c (PySem.newTuple vs) Q ⟨m, mu⟩ :=
  fun _ _ R => wpAny_newObj_type (.mk (R.alloc (sh := .tup vs) ⟨_, rfl⟩ rfl) (q _)) (by show vs.toArray.size ≤ sizeLine; rw [List.size_toArray]; exact hsz)
theorem w_newList {m : Str → Option Value} {mu : Led} {vs : List Value} {Q : Value → St → Prop} (q : ∀ a, Q (.ref a) ⟨m, (a, .lst vs) :: mu⟩) (hsz : vs.length ≤ sizeLine := by size_fits) : W c (PySem.newList vs) Q ⟨m, mu⟩ :=
  fun _ _ R => wpAny_newObj_type (.mk (R.alloc (sh := .lst vs) ⟨_, rfl⟩ rfl) (q _)) (by show vs.toArray.size ≤ sizeLine; rw [List.size_toArray]; exact hsz)
theorem w_tuple {elts k pos} {Q : Value → St → Prop} (hw : W c (spliced (backTo pos (starEach elts env))) (fun vs st₁ => W c (PySem.newTuple vs) Q st₁) st) : W c (eval (.Tuple elts k pos) env) Q st :=
  fun _ _ R => Tuple_ (hw.conv R fun _ _ h tk R₁ q₁ => q₁ h tk R₁)
theorem w_list {elts pos} {Q : Value → St → Prop} (hw : W c (spliced (backTo pos (starEach elts env))) (fun vs st₁ => W c (PySem.newList vs) Q st₁) st) : W c (eval (.List elts pos) env) Q st :=
  fun _ _ R => List_ (hw.conv R fun _ _ h tk R₁ q₁ => q₁ h tk R₁)

/-! statements -/
theorem w_nil {Q : Flow → St → Prop} (q : Q .next st) : W c (execs [] env) Q st := fun _ _ R => wpAny_execs_nil (.mk R q)
theorem w_cons {s rest} {Q : Flow → St → Prop} (hw : W c (exec s env) (fun f st₁ => match f with | .next => W c (execs rest env) Q st₁ | f => Q f st₁) st) : W c (execs (s :: rest) env) Q st :=
  fun _ _ R => wpAny_execs_cons (hw.conv R fun f _ h tk R₁ q₁ => by
    cases f with
    | next => exact q₁ h tk R₁
    | brk => exact .mk R₁ q₁
    | cont => exact .mk R₁ q₁
    | ret v => exact .mk R₁ q₁)
theorem w_sif {test body orelse pos} {Q : Flow → St → Prop} (hw : W c (isTrue test env (eval test env)) (fun b st₁ => if b then W c (execs body env) Q st₁ else W c (execs orelse env) Q st₁) st) : W c (exec (.If test body orelse pos) env) Q st :=
  fun _ _ R => wpAny_If (hw.conv R fun b _ h tk R₁ q₁ => by cases b <;> exact q₁ h tk R₁)
theorem w_ret {e pos} {Q : Flow → St → Prop} (hw : W c (eval e env) (fun v => Q (.ret v)) st) : W c (exec (.Return (some e) pos) env) Q st :=
  fun _ _ R => wpAny_Return_some (hw.conv R fun _ _ _ _ R₁ q₁ => .mk R₁ q₁)
theorem w_expr {e pos} {Q : Flow → St → Prop} (hw : W c (eval e env) (fun _ => Q .next) st) (hi : interactive env = false := by rfl) (hs : swapsWith e none pos.line env = pure false := by rfl) : W c (exec (.Expr e pos) env) Q st :=
  fun _ _ R => wpAny_Expr_any (hw.conv R fun _ _ _ _ R₁ q₁ => .mk R₁ q₁) hi hs
theorem w_assign {x pos' value pos} {Q : Flow → St → Prop} (hw : W c (eval value env) (fun v st₁ => W c (storeName env x v) (fun _ => Q .next) st₁) st) (hs : swapsWith value (some (.Name x pos')) pos.line env = pure false := by rfl) : W c (exec (.Assign [.Name x pos'] value pos) env) Q st :=
  fun _ _ R => wpAny_Assign_Name (hw.conv R fun _ _ _ _ R₁ q₁ => q₁.conv R₁ fun _ _ _ _ R₂ q₂ => .mk R₂ q₂) hs
theorem w_assignAttr {o attr pos' value pos} {Q : Flow → St → Prop} (hw : W c (eval value env) (fun v st₁ => W c (eval o env) (fun ov st₂ => W c (setAttr ov attr v) (fun _ => Q .next) st₂) st₁) st)
    (hs : swapsWith value (some (.Attribute o attr pos')) pos.line env = pure false := by rfl) : W c (exec (.Assign [.Attribute o attr pos'] value pos) env) Q st :=
  fun _ _ R => plainObj_wpAny_Assign_Attribute (hw.conv R fun _ _ _ _ R₁ q₁ => q₁.conv R₁ fun _ _ _ _ R₂ q₂ => q₂.conv R₂ fun _ _ _ _ R₃ q₃ => .mk R₃ q₃) hs
theorem w_assignSub {o i pos' value pos} {Q : Flow → St → Prop} (hw : W c (eval value env) (fun v st₁ => W c (eval o env) (fun ov st₂ => W c (eval i env) (fun iv st₃ => W c (setItem ov iv v) (fun _ => Q .next) st₃) st₂) st₁) st)
    (hs : swapsWith value (some (.Subscript o i pos')) pos.line env = pure false := by rfl) : W c (exec (.Assign [.Subscript o i pos'] value pos) env) Q st :=
  fun _ _ R => wpAny_Assign_Subscript (hw.conv R fun _ _ _ _ R₁ q₁ => q₁.conv R₁ fun _ _ _ _ R₂ q₂ => q₂.conv R₂ fun _ _ _ _ R₃ q₃ => q₃.conv R₃ fun _ _ _ _ R₄ q₄ => .mk R₄ q₄) hs
theorem w_assignTup {elts k tpos value pos} {Q : Flow → St → Prop} (hw : W c (eval value env) (fun v st₁ => W c (assign (.Tuple elts k tpos) env v) (fun _ => Q .next) st₁) st)
    (hs : swapsWithSole [.Tuple elts k tpos] value pos.line env = pure false := by rfl) (hp : swappedStores [.Tuple elts k tpos] value env = pure none := by rfl) : W c (exec (.Assign [.Tuple elts k tpos] value pos) env) Q st :=
  fun _ _ R => Assign_Tuple (hw.conv R fun _ _ _ _ R₁ q₁ => q₁.conv R₁ fun _ _ _ _ R₂ q₂ => .mk R₂ q₂) hs hp
theorem w_assignSwap {elts k tpos value pos} {names : List Str} {Q : Flow → St → Prop} (hw : W c (eval value env) (fun v st₁ => W c (unpackItems v names.length none) (fun items st₂ => W c (assignInOrder (names.reverse.map fun n => bindName env n) items.reverse) (fun _ => Q .next) st₂) st₁) st)
    (hs : swapsWithSole [.Tuple elts k tpos] value pos.line env = pure false := by rfl) (hp : swappedStores [.Tuple elts k tpos] value env = pure (some names) := by rfl) : W c (exec (.Assign [.Tuple elts k tpos] value pos) env) Q st :=
  fun _ _ R => Assign_Tuple_swapped (hw.conv R fun _ _ _ _ R₁ q₁ => q₁.conv R₁ fun _ _ _ _ R₂ q₂ => q₂.conv R₂ fun _ _ _ _ R₃ q₃ => .mk R₃ q₃) hs hp
theorem w_aioNil {xs : List Value} {Q : Unit → St → Prop} (q : Q () st) : W c (assignInOrder [] xs) Q st := w_pure q
theorem w_aioCons {t : Value → Sem Unit} {ts : List (Value → Sem Unit)} {x : Value} {xs : List Value} {Q : Unit → St → Prop} (hw : W c (t x) (fun _ st₁ => W c (assignInOrder ts xs) Q st₁) st) : W c (assignInOrder (t :: ts) (x :: xs)) Q st :=
  w_bind (w_holding hw)
theorem w_asName {x : Str} {pos : Pos} {v : Value} {Q : Unit → St → Prop} (hw : W c (storeName env x v) Q st) : W c (PySem.assign (.Name x pos) env v) Q st :=
  fun h tk R => assign_Name (hw h tk R)
theorem w_bindName {x : Str} {v : Value} {Q : Unit → St → Prop} (hw : W c (storeName env x v) Q st) : W c (PySem.bindName env x v) Q st :=
  fun h tk R => wpAny_bindName (hw h tk R)

theorem Sh.tup_is {prog : Program} {w : World} {h : Heap} {a : Addr} {vs : List Value} (x : At prog w h a (.tup vs)) : IsTup h a vs.toArray := by
  obtain ⟨o, e, n, rfl⟩ := x
  exact ⟨_, e, rfl, n, rfl⟩
theorem Sh.lst_is {prog : Program} {w : World} {h : Heap} {a : Addr} {vs : List Value} (x : At prog w h a (.lst vs)) : h.IsList a vs.toArray := by
  obtain ⟨o, e, n, rfl⟩ := x
  exact ⟨_, e, rfl, n, rfl⟩

/-- nothing but new objects beside -/
theorem Rel.extBut {h h' : Heap} (R : Rel c st h) (hs : Heap.ExtBut h.objs.size h h') : Rel c st h' := R.grows fun b o e => hs b o (Nat.ne_of_lt (Heap.lt_size e)) e
theorem w_unpackItems {a : Addr} {vs : List Value} {n : Nat} {Q : List Value → St → Prop} (ha : kn c st a (.tup vs)) (hn : n = vs.length) (q : Q vs st) (hh : c.A.handled = none := by assumption) : W c (PySem.unpackItems (.ref a) n none) Q st := by
  intro h tk R
  subst hn
  rw [show vs.length = vs.toArray.size by simp]
  exact unpackItems_tuple hh (Sh.tup_is (R.know ha)) fun h' he => .mk (R.extBut he) (by simpa using q)
theorem w_asTup {elts : List Expr} {k} {pos : Pos} {a : Addr} {vs : List Value} {Q : Unit → St → Prop} (ha : kn c st a (.tup vs)) (hw : W c (assignInOrder ((assignEach elts env).map (·.2)) vs) Q st)
    (hn : (assignEach elts env).length = vs.length := by rfl) (hstar : (assignEach elts env).findIdx? (·.1) = none := by rfl) (hh : c.A.handled = none := by assumption) : W c (PySem.assign (.Tuple elts k pos) env (.ref a)) Q st := by
  intro h tk R
  exact assign_Tuple_tuple hh (Sh.tup_is (R.know ha)) (by simpa using hn) hstar fun h' he => by simpa using hw h' tk (R.extBut he)
end
end Mine
end -- L2

section -- L3
open PySem PySem.W PySem.Calls PyProof.Rows PySem.Builtin PySem.Builtin.ObjectAttr

namespace Mine
section
variable {c : Cx} {st : St} {env : Env} {K : Frag} {mg mb : Str → Option Value}

theorem Gnd.at (G : Gnd K c.O mg mb) {h : Heap} (R : Rel c st h) : K.In h := G.X.keeps fun _ _ e => R.ground e

/-! calls -/
theorem w_ecall {func : Expr} {args : List Expr} {pos : Pos} {Q : Value → St → Prop} (hw : W c (eval func env) (fun f st₁ => W c (callWith pos f [] (backTo pos (starEach args env)) []) Q st₁) st)
    (he : eval (.Call func args [] pos) env = (do callWith pos (← eval func env) [] (backTo pos (starEach args env)) (backToKw pos (keywordEach [] env))) := by rfl) : W c (eval (.Call func args [] pos) env) Q st :=
  fun _ _ R => Call_ (hw.conv R fun _ _ h tk R₁ q₁ => q₁ h tk R₁) he
theorem w_mcall {o : Expr} {name : Str} {apos pos : Pos} {args : List Expr} {pl : Sem Bool} {Q : Value → St → Prop}
    (hw : W c (eval o env) (fun ov st₁ => W c (getMethod ov name pl) (fun fx st₂ => W c (callWith pos fx.1 fx.2 (backTo pos (starEach args env)) []) Q st₂) st₁) st)
    (he : eval (.Call (.Attribute o name apos) args [] pos) env = (do
      let ov ← eval o env
      PySem.standAt apos.atName
      let (f, first) ← PySem.holding [ov] (getMethod ov name pl)
      callWith pos f first (backTo pos (starEach args env)) []) := by rfl) : W c (eval (.Call (.Attribute o name apos) args [] pos) env) Q st :=
  fun _ _ R => MethodCall_ (hw.conv R fun _ _ _ _ R₁ q₁ => q₁.conv R₁ fun _ _ h tk R₂ q₂ => q₂ h tk R₂) he
theorem w_cwFn {pos : Pos} {f : Value} {first : List Value} {e : Expr} {rest : List Expr} {Q : Value → St → Prop} (G : Gnd K c.O mg mb) (hk : keepIn K f = true)
    (hw : W c (spliced (backTo pos (starEach (e :: rest) env))) (fun vs st₁ => W c (call f (first ++ vs)) Q st₁) st)
    (he : starEach (e :: rest) env = (false, eval e env) :: starEach rest env := by rfl) (hp : (backTo pos (starEach rest env)).any (·.1) = false := by rfl) : W c (callWith pos f first (backTo pos (starEach (e :: rest) env)) []) Q st :=
  fun _ _ R => callWith_K G.X hk (hw.conv R fun _ _ h tk R₁ q₁ => ⟨G.at R₁, q₁ h tk R₁⟩) he hp
theorem w_cwFn0 {pos : Pos} {f : Value} {first : List Value} {Q : Value → St → Prop} (G : Gnd K c.O mg mb) (hk : keepIn K f = true)
    (hw : W c (call f (first ++ [])) Q st) : W c (callWith pos f first (backTo pos (starEach [] env)) []) Q st :=
  fun h tk R => callWith_K0 (G.at R) hk (hw h tk R)
theorem w_cwB {pos : Pos} {id : String} {first : List Value} {e : Expr} {rest : List Expr} {Q : Value → St → Prop}
    (hw : W c (spliced (backTo pos (starEach (e :: rest) env))) (fun vs st₁ => W c (call (.builtin id) (first ++ vs)) Q st₁) st)
    (he : starEach (e :: rest) env = (false, eval e env) :: starEach rest env := by rfl) (hp : (backTo pos (starEach (e :: rest) env)).any (·.1) = false := by rfl) : W c (callWith pos (.builtin id) first (backTo pos (starEach (e :: rest) env)) []) Q st := by
  intro h tk R
  refine callWith_builtin hp ?_
  rw [he]
  refine evalArgs_plain ?_
  have := hw.conv (Q' := fun vs s' => wpAny (model c.prog c.w) c.A (call (.builtin id) (first ++ vs)) (Post c Q) No s') (E := No) (tk := tk) R fun _ _ h tk R₁ q₁ => q₁ h tk R₁
  rw [he] at this
  exact this
theorem w_cwB0 {pos : Pos} {id : String} {first : List Value} {Q : Value → St → Prop} (hw : W c (call (.builtin id) first) Q st) : W c (callWith pos (.builtin id) first (backTo pos (starEach [] env)) []) Q st :=
  fun h tk R => callWith_method0 (hw h tk R)
theorem w_cwT {pos : Pos} {T : String} {e : Expr} {rest : List Expr} {Q : Value → St → Prop}
    (hw : W c (spliced (backTo pos (starEach (e :: rest) env))) (fun vs st₁ => W c (call (.type T) vs) Q st₁) st)
    (he : starEach (e :: rest) env = (false, eval e env) :: starEach rest env := by rfl) (hp : (backTo pos (starEach rest env)).any (·.1) = false := by rfl) : W c (callWith pos (.type T) [] (backTo pos (starEach (e :: rest) env)) []) Q st :=
  fun _ _ R => PyProof.Rows.callWith_type1 (hw.conv R fun _ _ h tk R₁ q₁ => q₁ h tk R₁) he hp

/-! attributes -/
theorem entsOk_find {name : Str} : ∀ {es : List DictEntry} {kvs : List (Str × Value)}, entsOk es kvs → getL name es = some (kvs.lookup name)
  | [], [], _ => rfl
  | e :: es, (k, v) :: kvs, ⟨⟨⟨t, hk⟩, hv⟩, hr⟩ => by
    have ih := entsOk_find (name := name) hr
    have hks : e.key.isStr name = (k == name) := by rw [hk]; rfl
    unfold getL at ih ⊢
    rw [List.find?_cons, hks, List.lookup_cons]
    by_cases h : k = name
    · subst h
      simp [hv]
    · have h1 : (k == name) = false := by simpa using h
      have h2 : (name == k) = false := by simpa using fun e => h e.symm
      rw [h1, h2]
      dsimp only
      have hr : e.refKey = false := by simp [DictEntry.refKey, hk]
      rw [List.any_cons, hr, Bool.false_or]
      exact ih
  | [], _ :: _, h => h.elim
  | _ :: _, [], h => h.elim

noncomputable def attPut (name : Str) (v : Value) : List (Str × Value) → List (Str × Value)
  | [] => [(name, v)]
  | (k, u) :: r => if k == name then (k, v) :: r else (k, u) :: attPut name v r
theorem entsOk_put {name : Str} {hsh : Int} {t : Tok} {v : Value} : ∀ {es : List DictEntry} {kvs : List (Str × Value)}, entsOk es kvs → entsOk (putL name hsh (.str name t) v es) (attPut name v kvs)
  | [], [], _ => ⟨⟨⟨t, rfl⟩, rfl⟩, trivial⟩
  | e :: es, (k, u) :: kvs, ⟨⟨⟨tk, hk⟩, hv⟩, hr⟩ => by
    have hks : e.key.isStr name = (k == name) := by rw [hk]; rfl
    unfold putL attPut
    rw [hks]
    split
    · exact ⟨⟨⟨tk, hk⟩, rfl⟩, hr⟩
    · exact ⟨⟨⟨tk, hk⟩, hv⟩, entsOk_put hr⟩
  | [], _ :: _, h => h.elim
  | _ :: _, [], h => h.elim

theorem Rel.instAt {h : Heap} (R : Rel c st h) {x C d : Addr} {kvs : List (Str × Value)} (k1 : kn c st x (.inst C d)) (k2 : kn c st d (.att kvs)) :
    ∃ es n, InstAt h x (instObj C d) C (some (dictOf es n)) ∧ h.get? d = some (dictOf es n) ∧ entsOk es kvs := by
  obtain ⟨o, e, q⟩ := R.know k1
  have q' : o = instObj C d := q
  subst q'
  obtain ⟨od, ed, es, n, rfl, hes⟩ := R.know k2
  exact ⟨es, n, ⟨e, rfl, rfl, ed⟩, ed, hes⟩

theorem w_getAttr {x C d : Addr} {kvs : List (Str × Value)} {name : Str} {v : Value} {expr : Bool} {attr : Option Value} {Q : Value → St → Prop} (G : Gnd K c.O mg mb) (k1 : kn c st x (.inst C d)) (k2 : kn c st d (.att kvs))
    (h1 : plainGet K C name = true) (h2 : hasDictIn K C = true) (h3 : findIn K (.ref C) name = some attr) (h4 : noGet K attr = true) (hv : kvs.lookup name = some v) (h5 : handedIn v = true) (q : Q v st) :
    W c (getAttr (.ref x) name expr) Q st := by
  intro h tk R
  obtain ⟨es, n, I, _, hes⟩ := R.instAt k1 k2
  exact get_own R.fr G.X I h1 h2 h3 h4 (by rw [entsOk_find hes, hv]) h5 (.mk R q)

theorem w_method {x C d f : Addr} {kvs : List (Str × Value)} {name : Str} {pl : Sem Bool} {Q : Value × List Value → St → Prop} (G : Gnd K c.O mg mb) (k1 : kn c st x (.inst C d)) (k2 : kn c st d (.att kvs))
    (h1 : plainGet K C name = true) (h2 : findIn K (.ref C) name = some (some (.ref f))) (h3 : isFn K (.ref f) = true) (hv : kvs.lookup name = none) (q : Q (.ref f, [.ref x]) st) :
    W c (getMethod (.ref x) name pl) Q st := by
  intro h tk R
  obtain ⟨es, n, I, _, hes⟩ := R.instAt k1 k2
  exact method_inst R.fr G.X I h1 h2 h3 (by rw [entsOk_find hes, hv]) (.mk R q)

theorem store_own {prog : Program} {w : World} {A : Around} {s : Shared} {x C d : Addr} {es : List DictEntry} {n : Nat} {kvs : List (Str × Value)} {v : Value} {name : Str} {tkn : Tok} {b : Bool} {Q : Fin → Shared → Prop} {E : Value → Shared → Prop} (X : K.In s.heap)
    (hx : s.heap.get? x = some (instObj C d)) (hd : s.heap.get? d = some (dictOf es n)) (hes : entsOk es kvs) (hh : hasDictIn K C = true) (hz : es.length ≤ 1000)
    (h : ∀ h' tk', (∃ es' n', h'.get? d = some (dictOf es' n') ∧ entsOk es' (attPut name v kvs)) → Heap.SameBut d s.heap h' → Q (.done (.ret .none)) { s with heap := h', toks := tk' }) :
    wpAny (model prog w) A (storeInOwnDict (.ref x) (.ref C) (.str name tkn) name v b) Q E s := by
  obtain ⟨cd, hc, hd'⟩ := any_some hh
  refine wpAny_bind (wpAny_pure (wpAny_bind (wpAny_bind (wpAny_loadPart hx (wpAny_bind ((looks_clsIn X hc).here ?_))))))
  rw [hd']
  refine wpAny_pure (a := some d) (wpAny_bind (wpAny_pure (wpAny_bind ?_)))
  unfold nsSet
  refine wpAny_bind (wpAny_bind (wpAny_askSetting (wpAny_pure (wpAny_bind (wpAny_mkText (wpAny_bind (wpAny_loadPart hd ?_)))))))
  dsimp only
  have hlook := entsOk_find (name := name) hes
  have hc : (!es.toArray.any (·.key.isStr name) && es.toArray.any (·.refKey)) = false := by
    rw [← Array.any_toList, ← Array.any_toList]
    unfold getL at hlook
    split at hlook
    · rename_i en he
      rw [show (es.toArray.toList.any fun x => x.key.isStr name) = true from List.any_eq_true.mpr ⟨en, List.mem_of_find?_eq_some he, List.find?_some (p := fun x : DictEntry => x.key.isStr name) he⟩]; rfl
    · split at hlook
      · cases hlook
      · rename_i z
        rw [Bool.not_eq_true] at z
        rw [show (es.toArray.toList.any fun x => x.refKey) = false from z, Bool.and_false]
  rw [aRefKeyMayBeTheName_at, hc]
  have hu := Heap.get?_update_self (Obj.putName name (PyData.keyHash w.params name) (.str name s.toks) v) hd (by rw [putName_dict]; rfl)
  rw [putName_dict] at hu
  refine wpAny_updatePart hd ?_
  have hl2 : (putL name (PyData.keyHash w.params name) (.str name s.toks) v es).length ≤ es.length + 1 := by
    have := putL_find name (PyData.keyHash w.params name) (.str name s.toks) v es
    rw [← this]
    split
    · rw [List.length_modify]; omega
    · rw [List.length_append]; simp
  refine wpAny_bind (wpAny_lookBehind hu (pastItsLine_dict (by rw [List.size_toArray, sizeLine_eq]; omega)) ?_)
  exact wpAny_pure (h _ _ ⟨_, _, hu, entsOk_put hes⟩ (Heap.SameBut.update ..))

theorem entsOk_length : ∀ {es : List DictEntry} {kvs : List (Str × Value)}, entsOk es kvs → es.length = kvs.length
  | [], [], _ => rfl
  | _ :: es, _ :: kvs, ⟨_, hr⟩ => by rw [List.length_cons, List.length_cons, entsOk_length hr]
  | [], _ :: _, h => h.elim
  | _ :: _, [], h => h.elim

theorem w_setAttr {m : Str → Option Value} {mu : Led} {x C d : Addr} {kvs : List (Str × Value)} {name : Str} {v : Value} {mu' : Led} {Q : Unit → St → Prop} (G : Gnd K c.O mg mb) (k1 : kn c ⟨m, mu⟩ x (.inst C d)) (u : Up d (.att kvs) (.att (attPut name v kvs)) mu mu')
    (h1 : findIn K (.ref C) "__setattr__" = some (some (.builtin "object.__setattr__"))) (h2 : plainOver K C = true) (h3 : takerIn K C name = some none) (h4 : hasDictIn K C = true) (hz : kvs.length ≤ 1000) (q : Q () ⟨m, mu'⟩) :
    W c (setAttr (.ref x) name v) Q ⟨m, mu⟩ := by
  intro h tk R
  obtain ⟨es, n, I, hd, hes⟩ := R.instAt k1 (.inr u.mem)
  refine set_plain (G.at R) I h1 (osa_open (s := { c.s with heap := h, toks := tk + 1 + 1 }) (G.at R) I h2 h3 fun b => ?_)
  refine store_own (s := { c.s with heap := h, toks := tk + 1 + 1 }) (G.at R) I.at_ hd hes h4 (by rw [entsOk_length hes]; exact hz) fun h' tk' ⟨es', n', e', q'⟩ hs => ?_
  exact .mk (R.turn u ⟨_, e', es', n', rfl, q'⟩ fun b' _ hb e => hs.extBut b' _ hb e) q


noncomputable def initPost (prog : Program) (w : World) (O : Heap) (g : Kn) (s : Shared) (x : Addr) (Q : Led → Prop) : Result → Shared → Prop := CallPost prog w O g s (fun v mu => v = .none ∧ Q mu)

/-- an object is made: its dict, itself, then its __init__ -/
theorem w_make {m : Str → Option Value} {mu : Led} {C fI : Addr} {args : List Value} {Q : Value → St → Prop} (G : Gnd K c.O mg mb) (hm : makesIn K C = true) (hi : findIn K (.ref C) "__init__" = some (some (.ref fI))) (hf : isFn K (.ref fI) = true)
    (Q0 : Addr → Addr → Led → Prop)
    (hs : ∀ x d, ∀ g' : Kn, (∀ a sh, c.g a sh → g' a sh) → (∀ p ∈ mu, g' p.1 p.2) → Calls c.prog c.w c.O (c.A.under (.builtin "type.__call__" ⟨.ref C :: args, []⟩)) (.ref fI) (.ref x :: args) g' [(x, .inst C d), (d, .att [])] (fun v mu' => v = .none ∧ Q0 x d mu'))
    (k : ∀ x d mu', Q0 x d mu' → Q (.ref x) ⟨m, mu' ++ mu⟩) : W c (call (.ref C) args) Q ⟨m, mu⟩ := by
  intro h tk R
  have X := G.at R
  have e1 : (h.push emptyDict).objs.size = h.objs.size + 1 := Heap.size_push ..
  have R1 := R.alloc (o := emptyDict) (sh := .att []) ⟨[], 0, rfl, trivial⟩ rfl
  have R2 := R1.alloc (o := instObj C h.objs.size) (sh := .inst C h.objs.size) rfl rfl
  rw [e1] at R2
  obtain ⟨oL, _, _, e, _⟩ := id R2.ns
  refine wpAny_call (make_core (makes_of X hm) (looks_findIn X hi) (fun self => bind_fn X self (beq_iff_eq.mp hf)) (.inl rfl) ?_)
  refine codeAny_mono (hs (h.objs.size + 1) h.objs.size _ (fun a sh k => .inl k) (fun p hp => .inr (.tail _ hp)) c.s _ tk (R2.forCall (mu := [(h.objs.size + 1, .inst C h.objs.size), (h.objs.size, .att [])]) (rest := mu) e)) fun r s' hq => ?_
  cases r with
  | error x => exact hq.elim
  | ok f =>
    cases f with
    | ret v =>
      obtain ⟨mu', h', tk', rfl, R', hv, q⟩ := hq
      exact ⟨hv, .mk (R2.fromCall (mu := [(h.objs.size + 1, .inst C h.objs.size), (h.objs.size, .att [])]) (rest := mu) e R') (k _ _ mu' q)⟩
    | _ => exact hq.elim
end
end Mine
end -- L3

section -- L4
open PySem PySem.W PySem.Calls PyProof.Rows PySem.Builtin

namespace Mine
section
variable {c : Cx} {st : St} {env : Env} {K : Frag} {mg mb : Str → Option Value}

/-! methods of built-in types -/
theorem w_methLst {a : Addr} {vs : List Value} {name : Str} {id : String} {pl : Sem Bool} {Q : Value × List Value → St → Prop} (k : kn c st a (.lst vs)) (slot : Slot "list" name id) (hty : typeOf (.builtin id) = pure (.type "method_descriptor"))
    (q : Q (.builtin id, [.ref a]) st) : W c (getMethod (.ref a) name pl) Q st := by
  intro h tk R
  obtain ⟨o, e, n, rfl⟩ := R.know k
  exact getMethod_builtin ⟨_, e, rfl⟩ PySem.F.plainAttrs_list slot hty (fun b eb => by cases eb; exact ⟨_, e, rfl⟩) (.mk R q)
theorem w_methDct {a : Addr} {kvs : List (Str × Value)} {name : Str} {id : String} {pl : Sem Bool} {Q : Value × List Value → St → Prop} (k : kn c st a (.dct kvs)) (slot : Slot "dict" name id) (hty : typeOf (.builtin id) = pure (.type "method_descriptor"))
    (q : Q (.builtin id, [.ref a]) st) : W c (getMethod (.ref a) name pl) Q st := by
  intro h tk R
  obtain ⟨o, e, hs, hx, r⟩ := R.know k
  exact getMethod_builtin ⟨o, e, hx.1⟩ PySem.F.plainAttrs_dict slot hty (fun b eb => by cases eb; exact ⟨_, e, hx.2.1⟩) (.mk R q)
theorem w_methStr {x : Str} {t : Tok} {name : Str} {id : String} {pl : Sem Bool} {Q : Value × List Value → St → Prop} (slot : Slot "str" name id) (hty : typeOf (.builtin id) = pure (.type "method_descriptor"))
    (q : Q (.builtin id, [.str x t]) st) : W c (getMethod (.str x t) name pl) Q st := by
  intro h tk R
  exact getMethod_builtin (typeIs_str _ _ _) PySem.F.plainAttrs_str slot hty (fun b eb => by cases eb) (.mk R q)

/-! lists -/
theorem Rel.seqUp {h : Heap} {a : Addr} {vs vs' : List Value} {n : Nat} {mu' : Led} {f : Array Value → Array Value} (R : Rel c st h) (u : Up a (.lst vs) (.lst vs') st.mu mu') (e : h.get? a = some { cls := .type "list", data := .seq vs.toArray n })
    (hf : f vs.toArray = vs'.toArray) : Rel c ⟨st.m, mu'⟩ (h.update a (Obj.mapSeq f)) := by
  have hs : Heap.SameBut a h (h.update a (Obj.mapSeq f)) := Heap.SameBut.update ..
  refine R.turn u ?_ fun b _ hb e' => hs.extBut b _ hb e'
  have hu := Heap.get?_update_self (Obj.mapSeq f) e (by rfl)
  refine ⟨_, hu, ?_⟩
  show ∃ n', Obj.mapSeq f { cls := .type "list", data := .seq vs.toArray n } = _
  unfold Obj.mapSeq
  dsimp only
  rw [hf]
  exact ⟨_, rfl⟩

theorem w_append {m : Str → Option Value} {mu : Led} {a : Addr} {vs : List Value} {x : Value} {mu' : Led} {Q : Value → St → Prop} (u : Up a (.lst vs) (.lst (vs ++ [x])) mu mu') (hz : vs.length ≤ sizeLine) (q : Q .none ⟨m, mu'⟩) : W c (call (.builtin "list.append") [.ref a, x]) Q ⟨m, mu⟩ := by
  intro h tk R
  obtain ⟨o, e, n, rfl⟩ := R.led _ u.mem
  refine wpAny_call_entry PySem.slot_list_append ⟨_, e, rfl⟩ PySem.entry_list_append ?_ (PySem.args_list_append _ _)
  show wpAny _ _ (updateSeq a (·.push x) >>= fun _ => ret .none) _ _ _
  refine wpAny_bind (wpAny_updateSeq e rfl (wpAny_pure ⟨.none, rfl, .mk (R.seqUp u e (by simp)) q⟩) (by simpa using hz))

theorem w_pop {m : Str → Option Value} {mu : Led} {a : Addr} {p : List Value} {y : Value} {mu' : Led} {Q : Value → St → Prop} (u : Up a (.lst (p ++ [y])) (.lst p) mu mu') (hz : (p ++ [y]).length ≤ sizeLine) (q : Q y ⟨m, mu'⟩) : W c (call (.builtin "list.pop") [.ref a]) Q ⟨m, mu⟩ := by
  intro h tk R
  obtain ⟨o, e, n, rfl⟩ := R.led _ u.mem
  have hk : (p ++ [y]).toArray.size - 1 = p.length := by rw [List.size_toArray, List.length_append]; rfl
  refine call_meets PySem.F.slot_list_pop ⟨_, e, rfl⟩ PySem.F.entry_list_pop (PySem.F.args_list_pop_1 _) (PySem.MeetsSeq.list_pop_last a _ n y (by rw [hk]; simp) (by simpa using hz)) ⟨e, .mk (R.seqUp u e ?_) q⟩
  show (p ++ [y]).toArray.eraseIdxIfInBounds ((p ++ [y]).toArray.size - 1) = p.toArray
  rw [hk, kl_erase, List.append_nil]
theorem popMeets {a : Addr} {z : Array Value} {n k : Nat} {i : Int} {t : Tok} {y : Value} (ei : i = (k : Int)) (hk : k < z.size) (h3 : z.size ≤ sizeLine) (h5 : z[k]? = some y) :
    Meets (Builtin.«list.pop» { pos := [Value.ref a, Value.int i t] }) fun _ R s =>
      s.heap.get? a = some { cls := Value.type "list", data := Data.seq z n } ∧ R (Except.ok (Flow.ret y)) { s with heap := s.heap.update a (Obj.mapSeq fun xs => xs.eraseIdxIfInBounds k) } := by
  have h1 : i < 2 ^ 63 := by
    have e : (2 : Int) ^ 63 = 9223372036854775808 := by decide
    rw [sizeLine_eq] at h3
    omega
  have h2 : seqIndex? i z.size = some k := by
    rw [seqIndex_of (by omega) (by omega), ei, Int.toNat_natCast]
  exact @PySem.MeetsSeq.list_pop_at a z n i t k y (fitsIndex_of (by omega) h1) h2 h5 h3
theorem w_popAt {m : Str → Option Value} {mu : Led} {a : Addr} {p r : List Value} {y : Value} {i : Int} {t : Tok} {mu' : Led} {Q : Value → St → Prop} (u : Up a (.lst (p ++ y :: r)) (.lst (p ++ r)) mu mu') (hi : i = (p.length : Int)) (hz : (p ++ y :: r).length ≤ sizeLine) (q : Q y ⟨m, mu'⟩) :
    W c (call (.builtin "list.pop") [.ref a, .int i t]) Q ⟨m, mu⟩ := by
  intro h tk R
  obtain ⟨o, e, n, rfl⟩ := R.led _ u.mem
  have hz3 : (p ++ y :: r).toArray.size ≤ sizeLine := by rw [List.size_toArray]; exact hz
  have hz6 : p.length < (p ++ y :: r).toArray.size := by rw [List.size_toArray, List.length_append, List.length_cons]; omega
  have hz5 : (p ++ y :: r).toArray[p.length]? = some y := by simp
  refine call_meets PySem.F.slot_list_pop ⟨_, e, rfl⟩ PySem.F.entry_list_pop (PySem.F.args_list_pop_2 _ _) (popMeets (n := n) hi hz6 hz3 hz5) ⟨e, .mk (R.seqUp u e (kl_erase p r y)) q⟩

theorem w_listOf {m : Str → Option Value} {mu : Led} {a : Addr} {vs : List Value} {Q : Value → St → Prop} (k : kn c ⟨m, mu⟩ a (.lst vs) ∨ kn c ⟨m, mu⟩ a (.tup vs)) (hz : vs.length ≤ sizeLine) (q : ∀ b, Q (.ref b) ⟨m, (b, .lst vs) :: mu⟩) : W c (call (.type "list") [.ref a]) Q ⟨m, mu⟩ := by
  intro h tk R
  have key : ∃ T n, (T = "list" ∨ T = "tuple") ∧ h.get? a = some { cls := .type T, data := .seq vs.toArray n } := by
    rcases k with k | k
    · obtain ⟨o, e, n, rfl⟩ := R.know k; exact ⟨_, n, .inl rfl, e⟩
    · obtain ⟨o, e, n, rfl⟩ := R.know k; exact ⟨_, n, .inr rfl, e⟩
  obtain ⟨T, n, hT, e⟩ := key
  refine call_list_seq a hT e rfl rfl (fun h' c' hk hn => ?_) (by simpa using hz)
  have R' := R.grows hk
  have hfresh : h.get? h.objs.size = none := Heap.get?_none_of_le (Nat.le_refl _)
  refine .mk (st' := ⟨m, (h.objs.size, .lst vs) :: mu⟩) ⟨R'.ns, R'.fz, fun p hp => ?_, ?_, fun p hp sh kk => ?_, R.gr, fun p hp => ?_, R.Lg, R.above⟩ (q _)
  · rcases List.mem_cons.mp hp with rfl | hp
    · exact ⟨_, hn, c', rfl⟩
    · exact R'.led p hp
  · exact (R.alloc (o := { cls := .type "list", data := .seq vs.toArray }) (sh := .lst vs) ⟨_, rfl⟩ rfl).nd
  · rcases List.mem_cons.mp hp with rfl | hp
    · exact absurd (R.fz _ _ kk).lt (Nat.lt_irrefl _)
    · exact R.dj p hp sh kk
  · rcases List.mem_cons.mp hp with rfl | hp
    · exact Nat.ne_of_gt R.L_lt
    · exact R.Lmu p hp

theorem w_lenLst {a : Addr} {vs : List Value} {Q : Value → St → Prop} (k : kn c st a (.lst vs)) (hz : vs.length ≤ sizeLine) (q : ∀ t, Q (.int vs.length t) st) : W c (call (.builtin "len") [.ref a]) Q st := by
  intro h tk R
  refine call_len_list (Sh.lst_is (R.know k)) (by rw [List.size_toArray]; rw [sizeLine_eq] at hz; omega) ?_
  rw [List.size_toArray]
  exact .mk R (q _)

theorem w_itemLst {value slice : Expr} {a : Addr} {vs : List Value} {i : Int} {t : Tok} {v : Value} {Q : Value → St → Prop} (k : kn c st a (.lst vs)) (h0 : 0 ≤ i) (hv : vs[i.toNat]? = some v) (hz : vs.length ≤ sizeLine) (q : Q v st)
    (hs : subscripted slice false (.ref a) (.int i t) = PySem.operate [.ref a, .int i t] (getItem (.ref a) (.int i t)) := by with_unfolding_all rfl) : W c (subscriptTail value slice (.ref a) (.int i t)) Q st := by
  intro h tk R
  have hl := Sh.lst_is (R.know k)
  have hlt : i.toNat < vs.length := (List.getElem?_eq_some_iff.mp hv).1
  exact PyProof.Rows.tail_any hl.typeIs slot_list_getitem.lookup (wpAny_getItem_list hl h0 (by rw [sizeLine_eq] at hz; omega) (by simpa using hv) (.mk R q)) hs
theorem w_itemTup {value slice : Expr} {a : Addr} {vs : List Value} {i : Int} {t : Tok} {v : Value} {Q : Value → St → Prop} (k : kn c st a (.tup vs)) (h0 : 0 ≤ i) (hv : vs[i.toNat]? = some v) (hz : vs.length ≤ sizeLine) (q : Q v st)
    (hs : subscripted slice false (.ref a) (.int i t) = PySem.operate [.ref a, .int i t] (getItem (.ref a) (.int i t)) := by with_unfolding_all rfl) : W c (subscriptTail value slice (.ref a) (.int i t)) Q st := by
  intro h tk R
  have hl := Sh.tup_is (R.know k)
  have hlt : i.toNat < vs.length := (List.getElem?_eq_some_iff.mp hv).1
  have e : i = (i.toNat : Int) := by omega
  rw [sizeLine_eq] at hz
  exact PyProof.Rows.tail_any hl.typeIs slot_tuple_getitem.lookup (getItem_tuple hl (by omega) (by omega) (by rw [List.size_toArray, seqIndex_of h0 (by omega)]) (by simpa using hv) (.mk R q)) hs

/-! slices -/
abbrev sliceObj (l u k : Value) : Obj := { cls := .type "slice", data := .fields #[l, u, k] }
theorem w_slice {lower upper step : Option Expr} {p : Pos} {Q : Value → St → Prop}
    (hw : W c (evalPart lower env) (fun l st₁ => W c (evalPart upper env) (fun u st₂ => W c (evalPart step env) (fun k st₃ => ∀ b, Q (.ref b) ⟨st₃.m, (b, .obj (sliceObj l u k)) :: st₃.mu⟩) st₂) st₁) st) : W c (eval (.Slice lower upper step p) env) Q st :=
  fun _ _ R => wpAny_Slice (hw.conv R fun _ _ _ _ R₁ q₁ => q₁.conv R₁ fun _ _ _ _ R₂ q₂ => q₂.conv R₂ fun _ _ _ _ R₃ q₃ => .mk (R₃.alloc (sh := .obj _) rfl rfl) (q₃ _))
theorem w_partNone {Q : Value → St → Prop} (q : Q .none st) : W c (evalPart none env) Q st := fun _ _ R => evalPart_none_step (.mk R q)
theorem w_partSome {e : Expr} {Q : Value → St → Prop} (hw : W c (eval e env) Q st) : W c (evalPart (some e) env) Q st := fun h tk R => evalPart_some_step (hw h tk R)

theorem w_sliceLst {m : Str → Option Value} {mu : Led} {value slice : Expr} {a b : Addr} {vs : List Value} {vl vu vk : Value} {lo hi sp : Option Int} {ops : List Value} {Q : Value → St → Prop} (k : kn c ⟨m, mu⟩ a (.lst vs)) (kb : kn c ⟨m, mu⟩ b (.obj (sliceObj vl vu vk))) (pl : IsPart vl lo) (pu : IsPart vu hi) (pk : IsPart vk sp) (h0 : sp ≠ some 0)
    (hz : vs.length ≤ sizeLine) (q : ∀ d, Q (.ref d) ⟨m, (d, .lst (slicePick vs.toArray lo hi sp).toList) :: mu⟩) (hs : subscripted slice false (.ref a) (.ref b) = PySem.operate ops (getItem (.ref a) (.ref b)) := by with_unfolding_all rfl) : W c (subscriptTail value slice (.ref a) (.ref b)) Q ⟨m, mu⟩ := by
  intro h tk R
  have hl := Sh.lst_is (R.know k)
  obtain ⟨o, e, rfl⟩ := R.know kb
  refine PyProof.Rows.tail_any hl.typeIs list_getitem_lookup (wpAny_getItem_list_slice hl ⟨_, e, rfl, rfl⟩ pl pu pk h0 (.mk (R.alloc (sh := .lst (slicePick vs.toArray lo hi sp).toList) ⟨0, by simp⟩ rfl) (q _)) (by simpa using hz)) hs
end
end Mine
end -- L4

section -- HD
open PySem PySem.W PyProof.Rows PySem.Calls
namespace Mine
local macro_rules | `(tactic| o_head $_) => `(tactic| assumption)
theorem hk (h : PySem.Challenge.rw_pf0177_01.row.Holds) : PySem.Challenge.rw_pf0177_01.row.Holds := by k_head
noncomputable def topRunT (tb : String → Option Builtin) (p : Program) (w : World) (n₀ : Nat) (ann : Option Value) : Nat → SharedT → Thread → Option SharedT
  | 0, _, _ => none
  | n + 1, s, t => match through t with
    | true => some s
    | false => match stepOk n₀ ann t with
      | false => none
      | true => match stepT (denote tb) p w s t with
        | some (s', t') => topRunT tb p w n₀ ann n s' t'
        | none => none
theorem topRunT_of {tb : String → Option Builtin} {p : Program} {w : World} {n₀ : Nat} {ann : Option Value} : ∀ {n : Nat} {s s' : SharedT} {t : Thread}, topRunT tb p w n₀ ann n s t = some s' → topRun tb p w n₀ ann n s.abs t = some s'.abs
  | 0, _, _, _, h => by cases h
  | n + 1, s, s', t, h => by
    unfold topRunT at h
    unfold topRun
    cases he : through t with
    | true => rw [he] at h; cases h; rfl
    | false =>
      rw [he] at h
      cases hk : stepOk n₀ ann t with
      | false => rw [hk] at h; cases h
      | true =>
        rw [hk] at h
        cases hs : stepT (denote tb) p w s t with
        | none => rw [hs] at h; cases h
        | some r => obtain ⟨s₂, t₂⟩ := r; rw [hs] at h; rw [stepT_spec hs]; exact topRunT_of h
noncomputable def keepL : List Nat := [0, 2, 3, 5, 6, 7, 9, 10, 11, 12, 13, 14, 15, 16, 17, 18, 21, 22, 23, 25, 26, 27, 28, 29, 30, 31, 32, 33, 34, 35, 36, 37]
noncomputable def pr : Program := PySem.Challenge.pw_pf0177_01
noncomputable def qv : Program := view pr keepL
noncomputable def looseL : List Str := [Str.ofString "canonical"]
noncomputable def asL : List Addr := [2, 3, 15, 17, 18, 20, 21, 22, 29, 31, 32, 34, 35, 36, 37, 38, 39, 42, 49, 50, 51, 54, 56, 57, 59, 60, 61, 63, 64, 66, 67, 68, 70, 71, 73, 74, 75, 77, 78, 80, 81, 82, 84, 85, 87, 88, 89, 91, 92, 94, 95, 96, 98, 99, 101, 102, 103, 106, 107, 108, 110, 111, 113, 114, 115, 117, 118, 120, 121, 122, 124, 125, 127, 128, 129, 131, 132, 134, 135, 136, 137, 139, 140, 142, 143, 144, 152, 154, 155, 157, 158, 159, 160, 161, 162, 163, 173, 175, 176, 178, 179, 180, 182, 183, 185, 186, 187, 189, 190, 192, 193, 194, 196, 197, 199, 200, 201, 203, 204, 206, 207, 208, 210, 211, 213, 214, 215, 217, 218, 220, 221, 222, 224, 225, 227, 228, 229, 231, 232, 234, 235, 236, 238, 239, 241, 242, 243, 245, 246, 248, 249, 250, 252, 253, 255, 256, 257, 259, 260, 262, 263, 264, 266, 267, 269, 270, 271, 273, 274, 276, 277, 278, 280, 281, 283, 284, 285, 287, 288, 290, 291, 292, 294, 295, 297, 298, 299, 301, 302, 304, 305, 306, 308, 309, 311, 312, 313, 315, 316, 318, 319, 320, 322, 323, 325, 326, 327, 329, 330, 332, 333, 334, 336, 337, 339, 340, 341, 343, 344, 346, 347, 348, 349, 350, 351, 352, 355, 357, 358, 360, 361, 362, 364, 365, 367, 368, 369, 371, 372, 374, 375, 376, 378, 379, 381, 382, 383, 385, 386, 388, 389, 390, 393, 394, 395, 398, 399, 400, 402, 403, 405, 406, 407, 409, 410, 412, 413, 414, 416, 417, 419, 420, 421, 423, 424, 426, 427, 428, 431, 432, 433, 436, 437]
theorem asL_eq : ∀ P, asL = (hk.heap_1 P).map (·.1) := fun P => by kernel_rfl
noncomputable def mkT (P : Params) : BT := (((boot_heap P).objs.toList).foldl (fun (x : BT × Nat) o => (x.1.ins x.2 o, x.2 + 1)) (BT.nil, 0)).1
theorem mkT_abs : ∀ P, absHeap (mkT P) 11 {} = boot_heap P := fun P => by kernel_rfl
noncomputable def mods (p : Program) : List Str := importedModules p.main.body
noncomputable def recs := RowW.records (OpenRow.toRowW PySem.Challenge.rw_pf0177_01.row)
noncomputable def xtP (q : Program) (R : WRecords) (s : Shared) : Bool := xlAt q [] s && recOk R s
noncomputable def xt (s : Shared) : Bool := xtP qv recs s
noncomputable def treeGet (s : SharedT) (a : Nat) : Option Obj := match Nat.blt a s.n with
  | true => match s.tree.get a with
    | some o => alive o
    | none => alive default
  | false => none
theorem treeGet_is (s : SharedT) : s.abs.heap.get? = treeGet s := by
  funext a
  unfold treeGet
  show (absHeap s.tree s.n s.life).get? a = _
  cases hb : Nat.blt a s.n with
  | false => exact abs_get_none (by intro h; rw [Nat.blt_eq.mpr h] at hb; cases hb)
  | true =>
    unfold Heap.get?
    rw [absHeap_at, if_pos (Nat.blt_eq.mp hb)]
    cases s.tree.get a with
    | none => rfl
    | some o =>
      show (match some o with | some ⟨_, _, .freed, _⟩ => none | o => o) = alive o
      obtain ⟨c, d, dt, sl⟩ := o
      cases dt <;> rfl
noncomputable def runP (p : Program) (w : World) (os : OsState) : Option SharedT := topRunT treeTable p w 11 (some (.ref 6)) 5360 ⟨mkT w.params, 11, {}, #[], boot_drawn, boot_toks, os⟩ (topStub p)
noncomputable def askA (p q : Program) (R : WRecords) (w : World) (os : OsState) := (runP p w os).map fun s => ((staticsOk (mods p) (boot_heap w.params) s.abs.heap && namesBound p s.abs.heap && gensDone s.abs && laidKept (boot_heap w.params) s.abs.heap),
  seen ((recsOf q).map (·.name)) (ownsOf q) [] { s.abs with gens := #[] }, s.abs.heap.bltView,
  s.abs.heap.keysOk (looseW q looseL) ((recsOf q).map (·.name)) ((litsOf q).map (·.1)) ((clssOf q (looseW q looseL)).map (·.name)) && s.abs.heap.accountedOkI (mods p) && s.abs.heap.isNs mainGlobals && s.abs.heap.isNs builtinsNs && tablesOk q s.abs.heap && xtP q R s.abs && s.abs.gens.size == 0,
  wideSeen q s.abs, clsSeenW q looseL s.abs, asL.map (treeGet s))
noncomputable def askB (p q : Program) (w : World) (os : OsState) := (runP p w os).map fun s => (tabsOk q s.abs, pinSeenD q (drecsOf q) s.abs, plainSeenE q (looseW q looseL) s.abs, plainSeenD q looseL s.abs)
noncomputable def goodA (q : Program) := (wideGood q, clsGoodW q looseL)
noncomputable def goodB (q : Program) := (true, pinGoodD (drecsOf q), plainGoodE q (looseW q looseL), plainGoodD q looseL)
theorem askA_rfl : askA = askA := rfl
theorem askB_rfl : askB = askB := rfl
theorem goodA_rfl : goodA = goodA := rfl
theorem goodB_rfl : goodB = goodB := rfl
end Mine
name_quick askAQ for Mine.askA by Mine.askA_rfl
name_quick askBQ for Mine.askB by Mine.askB_rfl
name_quick goodAQ for Mine.goodA by Mine.goodA_rfl
name_quick goodBQ for Mine.goodB by Mine.goodB_rfl
namespace Mine
theorem heavyA : ∀ w os, PySem.W.Fast.askAQ pr qv recs w os = some (true, expectedOf qv, bltViewBooted, true, (PySem.W.Fast.goodAQ qv).1, (PySem.W.Fast.goodAQ qv).2, (hk.heap_1 w.params).map fun p => some p.2) := fun w os => by kernel_rfl
theorem heavyB : ∀ w os, PySem.W.Fast.askBQ pr qv w os = some (PySem.W.Fast.goodBQ qv) := fun w os => by kernel_rfl
theorem join2 {σ α β γ : Type} {x : Option σ} {f : σ → α} {g : σ → β} {a : α} {b : β} (hf : x.map f = some a) (hg : x.map g = some b) (k : α → β → γ) : x.map (fun s => k (f s) (g s)) = some (k a b) := by
  cases x with
  | none => cases hf
  | some s => cases hf; cases hg; rfl
noncomputable def askP (p q : Program) (R : WRecords) (w : World) (os : OsState) := (runP p w os).map fun s => ((staticsOk (mods p) (boot_heap w.params) s.abs.heap && namesBound p s.abs.heap && gensDone s.abs && laidKept (boot_heap w.params) s.abs.heap), openSeen q looseL (mods p) (xtP q R) true s.abs, asL.map s.abs.heap.get?)
theorem ask_of {p q : Program} {R : WRecords} {w : World} {os : OsState} {c : List (Option Obj)} (ha : askA p q R w os = some (true, expectedOf q, bltViewBooted, true, (goodA q).1, (goodA q).2, c)) (hb : askB p q w os = some (goodB q)) :
    askP p q R w os = some (true, openGood q looseL, c) := by
  unfold askA at ha
  unfold askB at hb
  have e := join2 ha hb fun a b => (a.1, (a.2.1, a.2.2.1, a.2.2.2.1, b.1, b.2.1, b.2.2.1, b.2.2.2, a.2.2.2.2.1, a.2.2.2.2.2.1), a.2.2.2.2.2.2)
  simp only [← treeGet_is] at e
  exact e
theorem ask_is (w : World) (os : OsState) : askP pr qv recs w os = some (true, openGood qv looseL, (hk.heap_1 w.params).map fun p => some p.2) := by
  refine ask_of ?_ ?_
  · rw [PySem.W.Fast.askAQ_eq, PySem.W.Fast.goodAQ_eq]
    exact heavyA w os
  · rw [PySem.W.Fast.askBQ_eq, PySem.W.Fast.goodBQ_eq]
    exact heavyB w os
end Mine


open PySem PySem.W PyProof.Rows PySem.Calls
namespace Mine
/-- the top's run over trees, then what is seen at its end -/
theorem left_of {p q : Program} {loose : List Str} {Xt : Shared → Bool} {α : Type} {Yf : Shared → α} {Ya : World → α} {N m₀ n₀ : Nat} {ann : Option Value} {T₀ : Params → BT} {H₀ : Params → Heap} {gs : Array GenState} {d : Drawn} {k : Nat}
    (open_ : ∀ w : World, (fencedOpening treeTable p w N).map (fun s => (s.heap, s.gens, s.drawn, s.toks)) = some (H₀ w.params, gs, d, k))
    (size : ∀ w : World, ((H₀ w.params).isNs mainGlobals && gs.size == 0, (H₀ w.params).objs.size, (H₀ w.params).nsMap mainGlobals "__annotations__") = (true, m₀, ann))
    (habs : ∀ P, absHeap (T₀ P) n₀ {} = H₀ P)
    (run : ∀ (w : World) (os : OsState), (topRunT treeTable p w m₀ ann N ⟨T₀ w.params, n₀, {}, gs, d, k, os⟩ (topStub p)).map (fun s =>
      ((staticsOk (importedModules p.main.body) (H₀ w.params) s.abs.heap && namesBound p s.abs.heap && gensDone s.abs && laidKept (H₀ w.params) s.abs.heap), openSeen q loose (importedModules p.main.body) Xt true s.abs, Yf s.abs)) = some (true, openGood q loose, Ya w)) :
    LeftO p q loose Xt Yf Ya N := fun w => by
  obtain ⟨⟨h, gs', d', k', os⟩, e, e'⟩ := Option.map_eq_some_iff.mp (open_ w)
  obtain ⟨rfl, rfl, rfl, rfl⟩ : h = H₀ w.params ∧ gs' = gs ∧ d' = d ∧ k' = k := by simpa using e'
  obtain ⟨z1, z2, z3⟩ : _ ∧ _ ∧ _ := by simpa only [Prod.mk.injEq] using size w
  obtain ⟨s, hs, hl⟩ := Option.map_eq_some_iff.mp (run w os)
  obtain ⟨l1, l2, l3⟩ : _ ∧ _ ∧ _ := by simpa only [Prod.mk.injEq] using hl
  have r := topRunT_of hs
  have eb : SharedT.abs ⟨T₀ w.params, n₀, {}, gs', d', k', os⟩ = ⟨H₀ w.params, gs', d', k', os⟩ := by
    show Shared.mk (absHeap (T₀ w.params) n₀ {}) _ _ _ _ = _
    rw [habs]
  rw [eb] at r
  have t : topFrom treeTable p w N ⟨H₀ w.params, gs', d', k', os⟩ = some s.abs := by
    unfold topFrom
    dsimp only
    rw [z1, z2, z3, r]
    show (match staticsOk (importedModules p.main.body) (H₀ w.params) s.abs.heap && namesBound p s.abs.heap && gensDone s.abs && laidKept (H₀ w.params) s.abs.heap with | true => _ | false => _) = _
    rw [l1]
  unfold openEnds
  rw [e]
  show (topFrom treeTable p w N _).map _ = _
  rw [t]
  exact congrArg some (Prod.ext l2 l3)
theorem boot_e : opening pr = plainProg pr.main.scope.names := by kernel_rfl
theorem boot_f : ∀ s, fenceModules? pr s = some s := fun s => by kernel_rfl
theorem boot_is : ∀ w : World, (fencedOpening treeTable pr w 5360).map (fun s => (s.heap, s.gens, s.drawn, s.toks)) = some (boot_heap w.params, Array.mk [], boot_drawn, boot_toks) := boot_open boot_e (by decide) boot_f
theorem size_is : ∀ w : World, ((boot_heap w.params).isNs mainGlobals && (Array.mk [] : Array GenState).size == 0, (boot_heap w.params).objs.size, (boot_heap w.params).nsMap mainGlobals "__annotations__") = (true, 11, some (.ref 6)) := fun w => by kernel_rfl
noncomputable def hook : Hook := kHook hk.heap_1 asL asL_eq
theorem left : LeftO pr qv looseL xt hook.obs hook.val 5360 := left_of boot_is size_is mkT_abs ask_is
noncomputable def saidF := PySem.W.OpenLaw.wellSaid
theorem saidF_rfl : saidF = saidF := rfl
end Mine
name_quick saidQ for Mine.saidF by Mine.saidF_rfl
namespace Mine
theorem saidQ_is : PySem.W.Fast.saidQ PySem.Challenge.rw_pf0177_01 = true := by kernel_rfl
theorem said : PySem.Challenge.rw_pf0177_01.wellSaid = true := (congrFun PySem.W.Fast.saidQ_eq PySem.Challenge.rw_pf0177_01).trans saidQ_is
end Mine
end -- HD

section -- L5
open PySem PySem.W PySem.Calls PyProof.Rows PySem.Builtin

namespace Mine
theorem hide {G : Prop} (h : ∀ X : Prop, (G → X) → X) : G := h G id
theorem ex1 {α0 : Sort _} {p : α0 → Prop} {X : Prop} (h : ∃ a0, p a0) (k : ∀ a0, p a0 → X) : X := let ⟨a0, h⟩ := h; k a0 h
theorem ex2 {α0 : Sort _} {α1 : Sort _} {p : α0 → α1 → Prop} {X : Prop} (h : ∃ a0 a1, p a0 a1) (k : ∀ a0 a1, p a0 a1 → X) : X := let ⟨a0, a1, h⟩ := h; k a0 a1 h
theorem ex3 {α0 : Sort _} {α1 : Sort _} {α2 : Sort _} {p : α0 → α1 → α2 → Prop} {X : Prop} (h : ∃ a0 a1 a2, p a0 a1 a2) (k : ∀ a0 a1 a2, p a0 a1 a2 → X) : X := let ⟨a0, a1, a2, h⟩ := h; k a0 a1 a2 h
theorem ex4 {α0 : Sort _} {α1 : Sort _} {α2 : Sort _} {α3 : Sort _} {p : α0 → α1 → α2 → α3 → Prop} {X : Prop} (h : ∃ a0 a1 a2 a3, p a0 a1 a2 a3) (k : ∀ a0 a1 a2 a3, p a0 a1 a2 a3 → X) : X := let ⟨a0, a1, a2, a3, h⟩ := h; k a0 a1 a2 a3 h
theorem ex5 {α0 : Sort _} {α1 : Sort _} {α2 : Sort _} {α3 : Sort _} {α4 : Sort _} {p : α0 → α1 → α2 → α3 → α4 → Prop} {X : Prop} (h : ∃ a0 a1 a2 a3 a4, p a0 a1 a2 a3 a4) (k : ∀ a0 a1 a2 a3 a4, p a0 a1 a2 a3 a4 → X) : X := let ⟨a0, a1, a2, a3, a4, h⟩ := h; k a0 a1 a2 a3 a4 h
theorem ex6 {α0 : Sort _} {α1 : Sort _} {α2 : Sort _} {α3 : Sort _} {α4 : Sort _} {α5 : Sort _} {p : α0 → α1 → α2 → α3 → α4 → α5 → Prop} {X : Prop} (h : ∃ a0 a1 a2 a3 a4 a5, p a0 a1 a2 a3 a4 a5) (k : ∀ a0 a1 a2 a3 a4 a5, p a0 a1 a2 a3 a4 a5 → X) : X := let ⟨a0, a1, a2, a3, a4, a5, h⟩ := h; k a0 a1 a2 a3 a4 a5 h
theorem ex7 {α0 : Sort _} {α1 : Sort _} {α2 : Sort _} {α3 : Sort _} {α4 : Sort _} {α5 : Sort _} {α6 : Sort _} {p : α0 → α1 → α2 → α3 → α4 → α5 → α6 → Prop} {X : Prop} (h : ∃ a0 a1 a2 a3 a4 a5 a6, p a0 a1 a2 a3 a4 a5 a6) (k : ∀ a0 a1 a2 a3 a4 a5 a6, p a0 a1 a2 a3 a4 a5 a6 → X) : X := let ⟨a0, a1, a2, a3, a4, a5, a6, h⟩ := h; k a0 a1 a2 a3 a4 a5 a6 h
theorem ex8 {α0 : Sort _} {α1 : Sort _} {α2 : Sort _} {α3 : Sort _} {α4 : Sort _} {α5 : Sort _} {α6 : Sort _} {α7 : Sort _} {p : α0 → α1 → α2 → α3 → α4 → α5 → α6 → α7 → Prop} {X : Prop} (h : ∃ a0 a1 a2 a3 a4 a5 a6 a7, p a0 a1 a2 a3 a4 a5 a6 a7) (k : ∀ a0 a1 a2 a3 a4 a5 a6 a7, p a0 a1 a2 a3 a4 a5 a6 a7 → X) : X := let ⟨a0, a1, a2, a3, a4, a5, a6, a7, h⟩ := h; k a0 a1 a2 a3 a4 a5 a6 a7 h
theorem ex9 {α0 : Sort _} {α1 : Sort _} {α2 : Sort _} {α3 : Sort _} {α4 : Sort _} {α5 : Sort _} {α6 : Sort _} {α7 : Sort _} {α8 : Sort _} {p : α0 → α1 → α2 → α3 → α4 → α5 → α6 → α7 → α8 → Prop} {X : Prop} (h : ∃ a0 a1 a2 a3 a4 a5 a6 a7 a8, p a0 a1 a2 a3 a4 a5 a6 a7 a8) (k : ∀ a0 a1 a2 a3 a4 a5 a6 a7 a8, p a0 a1 a2 a3 a4 a5 a6 a7 a8 → X) : X := let ⟨a0, a1, a2, a3, a4, a5, a6, a7, a8, h⟩ := h; k a0 a1 a2 a3 a4 a5 a6 a7 a8 h
theorem ex10 {α0 : Sort _} {α1 : Sort _} {α2 : Sort _} {α3 : Sort _} {α4 : Sort _} {α5 : Sort _} {α6 : Sort _} {α7 : Sort _} {α8 : Sort _} {α9 : Sort _} {p : α0 → α1 → α2 → α3 → α4 → α5 → α6 → α7 → α8 → α9 → Prop} {X : Prop} (h : ∃ a0 a1 a2 a3 a4 a5 a6 a7 a8 a9, p a0 a1 a2 a3 a4 a5 a6 a7 a8 a9) (k : ∀ a0 a1 a2 a3 a4 a5 a6 a7 a8 a9, p a0 a1 a2 a3 a4 a5 a6 a7 a8 a9 → X) : X := let ⟨a0, a1, a2, a3, a4, a5, a6, a7, a8, a9, h⟩ := h; k a0 a1 a2 a3 a4 a5 a6 a7 a8 a9 h
theorem ex11 {α0 : Sort _} {α1 : Sort _} {α2 : Sort _} {α3 : Sort _} {α4 : Sort _} {α5 : Sort _} {α6 : Sort _} {α7 : Sort _} {α8 : Sort _} {α9 : Sort _} {α10 : Sort _} {p : α0 → α1 → α2 → α3 → α4 → α5 → α6 → α7 → α8 → α9 → α10 → Prop} {X : Prop} (h : ∃ a0 a1 a2 a3 a4 a5 a6 a7 a8 a9 a10, p a0 a1 a2 a3 a4 a5 a6 a7 a8 a9 a10) (k : ∀ a0 a1 a2 a3 a4 a5 a6 a7 a8 a9 a10, p a0 a1 a2 a3 a4 a5 a6 a7 a8 a9 a10 → X) : X := let ⟨a0, a1, a2, a3, a4, a5, a6, a7, a8, a9, a10, h⟩ := h; k a0 a1 a2 a3 a4 a5 a6 a7 a8 a9 a10 h
theorem ex12 {α0 : Sort _} {α1 : Sort _} {α2 : Sort _} {α3 : Sort _} {α4 : Sort _} {α5 : Sort _} {α6 : Sort _} {α7 : Sort _} {α8 : Sort _} {α9 : Sort _} {α10 : Sort _} {α11 : Sort _} {p : α0 → α1 → α2 → α3 → α4 → α5 → α6 → α7 → α8 → α9 → α10 → α11 → Prop} {X : Prop} (h : ∃ a0 a1 a2 a3 a4 a5 a6 a7 a8 a9 a10 a11, p a0 a1 a2 a3 a4 a5 a6 a7 a8 a9 a10 a11) (k : ∀ a0 a1 a2 a3 a4 a5 a6 a7 a8 a9 a10 a11, p a0 a1 a2 a3 a4 a5 a6 a7 a8 a9 a10 a11 → X) : X := let ⟨a0, a1, a2, a3, a4, a5, a6, a7, a8, a9, a10, a11, h⟩ := h; k a0 a1 a2 a3 a4 a5 a6 a7 a8 a9 a10 a11 h
theorem and2 {A0 A1 X : Prop} (h : A0 ∧ A1) (k : A0 → A1 → X) : X := let ⟨h0, h1⟩ := h; k h0 h1
theorem and3 {A0 A1 A2 X : Prop} (h : A0 ∧ A1 ∧ A2) (k : A0 → A1 → A2 → X) : X := let ⟨h0, h1, h2⟩ := h; k h0 h1 h2
theorem and4 {A0 A1 A2 A3 X : Prop} (h : A0 ∧ A1 ∧ A2 ∧ A3) (k : A0 → A1 → A2 → A3 → X) : X := let ⟨h0, h1, h2, h3⟩ := h; k h0 h1 h2 h3
theorem and5 {A0 A1 A2 A3 A4 X : Prop} (h : A0 ∧ A1 ∧ A2 ∧ A3 ∧ A4) (k : A0 → A1 → A2 → A3 → A4 → X) : X := let ⟨h0, h1, h2, h3, h4⟩ := h; k h0 h1 h2 h3 h4
theorem and6 {A0 A1 A2 A3 A4 A5 X : Prop} (h : A0 ∧ A1 ∧ A2 ∧ A3 ∧ A4 ∧ A5) (k : A0 → A1 → A2 → A3 → A4 → A5 → X) : X := let ⟨h0, h1, h2, h3, h4, h5⟩ := h; k h0 h1 h2 h3 h4 h5
theorem and7 {A0 A1 A2 A3 A4 A5 A6 X : Prop} (h : A0 ∧ A1 ∧ A2 ∧ A3 ∧ A4 ∧ A5 ∧ A6) (k : A0 → A1 → A2 → A3 → A4 → A5 → A6 → X) : X := let ⟨h0, h1, h2, h3, h4, h5, h6⟩ := h; k h0 h1 h2 h3 h4 h5 h6
theorem and8 {A0 A1 A2 A3 A4 A5 A6 A7 X : Prop} (h : A0 ∧ A1 ∧ A2 ∧ A3 ∧ A4 ∧ A5 ∧ A6 ∧ A7) (k : A0 → A1 → A2 → A3 → A4 → A5 → A6 → A7 → X) : X := let ⟨h0, h1, h2, h3, h4, h5, h6, h7⟩ := h; k h0 h1 h2 h3 h4 h5 h6 h7
theorem and9 {A0 A1 A2 A3 A4 A5 A6 A7 A8 X : Prop} (h : A0 ∧ A1 ∧ A2 ∧ A3 ∧ A4 ∧ A5 ∧ A6 ∧ A7 ∧ A8) (k : A0 → A1 → A2 → A3 → A4 → A5 → A6 → A7 → A8 → X) : X := let ⟨h0, h1, h2, h3, h4, h5, h6, h7, h8⟩ := h; k h0 h1 h2 h3 h4 h5 h6 h7 h8
theorem and10 {A0 A1 A2 A3 A4 A5 A6 A7 A8 A9 X : Prop} (h : A0 ∧ A1 ∧ A2 ∧ A3 ∧ A4 ∧ A5 ∧ A6 ∧ A7 ∧ A8 ∧ A9) (k : A0 → A1 → A2 → A3 → A4 → A5 → A6 → A7 → A8 → A9 → X) : X := let ⟨h0, h1, h2, h3, h4, h5, h6, h7, h8, h9⟩ := h; k h0 h1 h2 h3 h4 h5 h6 h7 h8 h9
theorem and11 {A0 A1 A2 A3 A4 A5 A6 A7 A8 A9 A10 X : Prop} (h : A0 ∧ A1 ∧ A2 ∧ A3 ∧ A4 ∧ A5 ∧ A6 ∧ A7 ∧ A8 ∧ A9 ∧ A10) (k : A0 → A1 → A2 → A3 → A4 → A5 → A6 → A7 → A8 → A9 → A10 → X) : X := let ⟨h0, h1, h2, h3, h4, h5, h6, h7, h8, h9, h10⟩ := h; k h0 h1 h2 h3 h4 h5 h6 h7 h8 h9 h10
theorem and12 {A0 A1 A2 A3 A4 A5 A6 A7 A8 A9 A10 A11 X : Prop} (h : A0 ∧ A1 ∧ A2 ∧ A3 ∧ A4 ∧ A5 ∧ A6 ∧ A7 ∧ A8 ∧ A9 ∧ A10 ∧ A11) (k : A0 → A1 → A2 → A3 → A4 → A5 → A6 → A7 → A8 → A9 → A10 → A11 → X) : X := let ⟨h0, h1, h2, h3, h4, h5, h6, h7, h8, h9, h10, h11⟩ := h; k h0 h1 h2 h3 h4 h5 h6 h7 h8 h9 h10 h11
theorem and13 {A0 A1 A2 A3 A4 A5 A6 A7 A8 A9 A10 A11 A12 X : Prop} (h : A0 ∧ A1 ∧ A2 ∧ A3 ∧ A4 ∧ A5 ∧ A6 ∧ A7 ∧ A8 ∧ A9 ∧ A10 ∧ A11 ∧ A12) (k : A0 → A1 → A2 → A3 → A4 → A5 → A6 → A7 → A8 → A9 → A10 → A11 → A12 → X) : X := let ⟨h0, h1, h2, h3, h4, h5, h6, h7, h8, h9, h10, h11, h12⟩ := h; k h0 h1 h2 h3 h4 h5 h6 h7 h8 h9 h10 h11 h12
theorem and14 {A0 A1 A2 A3 A4 A5 A6 A7 A8 A9 A10 A11 A12 A13 X : Prop} (h : A0 ∧ A1 ∧ A2 ∧ A3 ∧ A4 ∧ A5 ∧ A6 ∧ A7 ∧ A8 ∧ A9 ∧ A10 ∧ A11 ∧ A12 ∧ A13) (k : A0 → A1 → A2 → A3 → A4 → A5 → A6 → A7 → A8 → A9 → A10 → A11 → A12 → A13 → X) : X := let ⟨h0, h1, h2, h3, h4, h5, h6, h7, h8, h9, h10, h11, h12, h13⟩ := h; k h0 h1 h2 h3 h4 h5 h6 h7 h8 h9 h10 h11 h12 h13
theorem and15 {A0 A1 A2 A3 A4 A5 A6 A7 A8 A9 A10 A11 A12 A13 A14 X : Prop} (h : A0 ∧ A1 ∧ A2 ∧ A3 ∧ A4 ∧ A5 ∧ A6 ∧ A7 ∧ A8 ∧ A9 ∧ A10 ∧ A11 ∧ A12 ∧ A13 ∧ A14) (k : A0 → A1 → A2 → A3 → A4 → A5 → A6 → A7 → A8 → A9 → A10 → A11 → A12 → A13 → A14 → X) : X := let ⟨h0, h1, h2, h3, h4, h5, h6, h7, h8, h9, h10, h11, h12, h13, h14⟩ := h; k h0 h1 h2 h3 h4 h5 h6 h7 h8 h9 h10 h11 h12 h13 h14
theorem and16 {A0 A1 A2 A3 A4 A5 A6 A7 A8 A9 A10 A11 A12 A13 A14 A15 X : Prop} (h : A0 ∧ A1 ∧ A2 ∧ A3 ∧ A4 ∧ A5 ∧ A6 ∧ A7 ∧ A8 ∧ A9 ∧ A10 ∧ A11 ∧ A12 ∧ A13 ∧ A14 ∧ A15) (k : A0 → A1 → A2 → A3 → A4 → A5 → A6 → A7 → A8 → A9 → A10 → A11 → A12 → A13 → A14 → A15 → X) : X := let ⟨h0, h1, h2, h3, h4, h5, h6, h7, h8, h9, h10, h11, h12, h13, h14, h15⟩ := h; k h0 h1 h2 h3 h4 h5 h6 h7 h8 h9 h10 h11 h12 h13 h14 h15

structure Amb (A : Around) (n : Nat) : Prop where
  handled : A.handled = none
  room : A.depth + n ≤ 900
  units : A.units + 20 * n ≤ 9000
theorem Amb.le {A : Around} {n m : Nat} (a : Amb A n) (h : m ≤ n := by omega) : Amb A m := ⟨a.handled, by have := a.room; omega, by have := a.units; omega⟩
theorem Amb.deeper {A : Around} {n : Nat} {env : Env} (a : Amb A (n + 1)) : Amb (A.deeper env) n := ⟨a.handled, by have := a.room; rw [depth_deeper]; omega, by have := a.units; rw [Around.deeper_units]; omega⟩
theorem Amb.depth {A : Around} {n : Nat} (a : Amb A n) : A.depth < recursionLimit := by have := a.room; show A.depth < 1000; omega
theorem Amb.make {A : Around} {n : Nat} {C : Addr} {vals : List Value} (a : Amb A (n + 1)) : Amb (A.under (.builtin "type.__call__" ⟨.ref C :: vals, []⟩)) n :=
  ⟨a.handled, by have := a.room; rw [depth_under_make]; omega, by
    have := a.units
    have e : (A.under (.builtin "type.__call__" ⟨.ref C :: vals, []⟩)).units = A.units + (Code.builtin "type.__call__" ⟨.ref C :: vals, []⟩).cUnits := rfl
    have : (Code.builtin "type.__call__" ⟨.ref C :: vals, []⟩).cUnits ≤ 20 := by
      rw [show (Code.builtin "type.__call__" ⟨.ref C :: vals, []⟩).cUnits = 1 from rfl]; decide
    omega⟩

section
variable {c : Cx} {st : St} {env : Env} {K : Frag} {mg mb : Str → Option Value}

/-! statement runs -/
noncomputable def Seq (k : St → Prop) (Q : Flow → St → Prop) (f : Flow) (st : St) : Prop := match f with
  | .next => k st
  | f => Q f st
theorem Seq.next {k : St → Prop} {Q : Flow → St → Prop} (h : k st) : Seq k Q .next st := h
theorem Seq.ret {k : St → Prop} {Q : Flow → St → Prop} {v : Value} (h : Q (.ret v) st) : Seq k Q (.ret v) st := h
theorem Seq.brk {k : St → Prop} {Q : Flow → St → Prop} (h : Q .brk st) : Seq k Q .brk st := h
theorem Seq.cont {k : St → Prop} {Q : Flow → St → Prop} (h : Q .cont st) : Seq k Q .cont st := h
theorem w_seq {s rest} {Q : Flow → St → Prop} (hw : W c (exec s env) (Seq (fun st₁ => W c (execs rest env) Q st₁) Q) st) : W c (execs (s :: rest) env) Q st :=
  w_cons (hw.mono fun f _ q => by cases f <;> exact q)

noncomputable def Br (b : Bool) (p q : Prop) : Prop := if b then p else q
theorem Br.t {p q : Prop} (h : p) : Br true p q := h
theorem Br.f {p q : Prop} (h : q) : Br false p q := h
theorem Br.of {b : Bool} {p q : Prop} (h1 : b = true → p) (h2 : b = false → q) : Br b p q := by
  cases b
  · exact h2 rfl
  · exact h1 rfl
theorem Br.tt {b : Bool} {p q : Prop} (e : b = true) (h : p) : Br b p q := by subst e; exact h
theorem Br.ff {b : Bool} {p q : Prop} (e : b = false) (h : q) : Br b p q := by subst e; exact h
theorem w_if {test body orelse pos} {Q : Flow → St → Prop} (hw : W c (isTrue test env (eval test env)) (fun b st₁ => Br b (W c (execs body env) Q st₁) (W c (execs orelse env) Q st₁)) st) : W c (exec (.If test body orelse pos) env) Q st := w_sif hw
theorem w_ifx {test body orelse pos} {Q : Value → St → Prop} (hw : W c (isTrue test env (eval test env)) (fun b st₁ => Br b (W c (eval body env) Q st₁) (W c (eval orelse env) Q st₁)) st) : W c (eval (.IfExp test body orelse pos) env) Q st := w_ifexp hw
theorem w_and {x rest pos whole} {Q : Bool → St → Prop} (hw : W c (isTrue x env (eval x env)) (fun b st₁ => Br b (W c (isTrue (.BoolOp .And rest pos) env whole) Q st₁) (Q false st₁)) st) : W c (isTrue (.BoolOp .And (x :: rest) pos) env whole) Q st := w_tand hw
theorem w_or {x rest pos whole} {Q : Bool → St → Prop} (hw : W c (isTrue x env (eval x env)) (fun b st₁ => Br b (Q true st₁) (W c (isTrue (.BoolOp .Or rest pos) env whole) Q st₁)) st) : W c (isTrue (.BoolOp .Or (x :: rest) pos) env whole) Q st := w_tor hw
theorem w_link {pos : Pos} {a : Value} {op op' : CmpOp} {ops : List CmpOp} {r r' : Sem Value} {rs : List (Sem Value)} {Q : Bool → St → Prop}
    (hw : W c r (fun b st₁ => W c (compareOp op a b) (fun v st₂ => W c (truthy v) (fun t st₃ => Br t (W c (testChain pos b (op' :: ops) (r' :: rs)) Q st₃) (Q false st₃)) st₂) st₁) st) :
    W c (testChain pos a (op :: op' :: ops) (r :: r' :: rs)) Q st := w_tlink hw
theorem w_chain {l op₁ op₂ ops r₁ r₂ rs pos whole} {Q : Bool → St → Prop}
    (hw : W c (eval l env) (fun a st₁ => W c (testChain pos a (op₁ :: op₂ :: ops) (eval r₁ env :: eval r₂ env :: evalEach rs env)) Q st₁) st)
    (hm : lastMarks (op₁ :: op₂ :: ops) (r₁ :: r₂ :: rs) = false := by with_unfolding_all rfl) : W c (isTrue (.Compare l (op₁ :: op₂ :: ops) (r₁ :: r₂ :: rs) pos) env whole) Q st := w_tchain hw hm

/-! locals as lists -/
theorem lk_here {x : Str} {v : Value} {l : List (Str × Value)} : ofBinds ((x, v) :: l) x = some v := by simp [ofBinds]
theorem lk_skip {x y : Str} {u : Value} {r : Option Value} {l : List (Str × Value)} (h : (x == y) = false) (hl : ofBinds l x = r) : ofBinds ((y, u) :: l) x = r := by
  show (if x = y then some u else ofBinds l x) = r
  rw [if_neg (by simpa using h)]; exact hl
theorem al_here {x : Str} {v : Value} {l : List (Str × Value)} : List.lookup x ((x, v) :: l) = some v := by simp
theorem al_skip {x y : Str} {u : Value} {r : Option Value} {l : List (Str × Value)} (h : (x == y) = false) (hl : List.lookup x l = r) : List.lookup x ((y, u) :: l) = r := by
  rw [List.lookup_cons, h]; exact hl
/-- put a name's value in its place -/
inductive Put (x : Str) (v : Value) : List (Str × Value) → List (Str × Value) → Prop
  | nil : Put x v [] [(x, v)]
  | here {u : Value} {l : List (Str × Value)} : Put x v ((x, u) :: l) ((x, v) :: l)
  | skip {y : Str} {u : Value} {l l' : List (Str × Value)} (h : (x == y) = false) : Put x v l l' → Put x v ((y, u) :: l) ((y, u) :: l')
theorem Put.eq {x : Str} {v : Value} {l l' : List (Str × Value)} (p : Put x v l l') : (fun y => if y = x then some v else ofBinds l y) = ofBinds l' := by
  funext y
  induction p with
  | nil => rfl
  | @here u l => 
    show _ = (if y = x then some v else ofBinds l y)
    show (if y = x then some v else if y = x then some u else ofBinds l y) = _
    split <;> rfl
  | @skip z u l l' h p ih =>
    have hz : z ≠ x := fun e => by rw [e] at h; simp at h
    show (if y = x then some v else if y = z then some u else ofBinds l y) = if y = z then some u else ofBinds l' y
    rw [← ih]
    by_cases h1 : y = z
    · subst h1; simp [hz]
    · simp [h1]
theorem w_put {x : Str} {v : Value} {l l' : List (Str × Value)} {mu : Led} {Q : Unit → St → Prop} (p : Put x v l l') (q : Q () ⟨ofBinds l', mu⟩) (hL : env.locals = c.L := by rfl) (hk : env.scope.kind = .function := by rfl)
    (hx : env.kindOf x = some .local := by rfl) : W c (storeName env x v) Q ⟨ofBinds l, mu⟩ := w_store (by show Q () ⟨fun y => if y = x then some v else ofBinds l y, mu⟩; rw [p.eq]; exact q) hL hk hx

/-! values -/
theorem strLen_add (x y : Str) : (x ++ y).length = x.length + y.length := strLen_append x y
theorem w_addStr {x y : Str} {t u : Tok} {Q : Value → St → Prop} (q : ∀ t', Q (.str (x ++ y) t') st) (hsz : x.length + y.length ≤ 16777216) : W c (binaryOp .Add (.str x t) (.str y u)) Q st :=
  fun _ _ R => PyProof.Rows.add_str (fun _ _ => .mk R (q _)) hsz
theorem w_eqStr {x y : Str} {t u : Tok} {Q : Value → St → Prop} (q : Q (.bool (x == y)) st) : W c (compareOp .Eq (.str x t) (.str y u)) Q st := fun _ _ R => PyProof.Rows.eq_str (.mk R q)
theorem w_neStr {x y : Str} {t u : Tok} {Q : Value → St → Prop} (q : Q (.bool (x != y)) st) : W c (compareOp .NotEq (.str x t) (.str y u)) Q st := fun _ _ R => PyProof.Rows.ne_str (.mk R q)
theorem w_neStrNone {x : Str} {t : Tok} {Q : Value → St → Prop} (q : Q (.bool true) st) : W c (compareOp .NotEq (.str x t) .none) Q st := fun _ _ R => PySem.EqNone.ne_str_none (.mk R q)
theorem w_is {v : Value} {Q : Value → St → Prop} (q : Q (.bool (v == .none)) st) : W c (compareOp .Is v .none) Q st := fun _ _ R => PyProof.Rows.is_none_gen (.mk R q)
theorem w_isnot {v : Value} {Q : Value → St → Prop} (q : Q (.bool (!(v == .none))) st) : W c (compareOp .IsNot v .none) Q st := fun _ _ R => PyProof.Rows.isnot_none_gen (.mk R q)
section
variable {a b : Int} {t u : Tok} {Q : Value → St → Prop}
theorem w_addInt (q : ∀ t', Q (.int (a + b) t') st) : W c (binaryOp .Add (.int a t) (.int b u)) Q st := fun _ _ R => PyProof.Rows.add_int (.mk R (q _))
theorem w_subInt (q : ∀ t', Q (.int (a - b) t') st) : W c (binaryOp .Sub (.int a t) (.int b u)) Q st := fun _ _ R => PyProof.Rows.sub_int (.mk R (q _))
theorem w_mulInt (q : ∀ t', Q (.int (a * b) t') st) (hm : IntMulOk a b) : W c (binaryOp .Mult (.int a t) (.int b u)) Q st := fun _ _ R => PyProof.Rows.mul_int (.mk R (q _)) hm
theorem w_modInt (hb : b ≠ 0) (q : ∀ t', Q (.int (a.fmod b) t') st) : W c (binaryOp .Mod (.int a t) (.int b u)) Q st := fun _ _ R => PyProof.Rows.mod_int' hb (.mk R (q _))
theorem w_divInt (hb : b ≠ 0) (hs : b.natAbs < 1073741824) (q : ∀ t', Q (.int (a.fdiv b) t') st) : W c (binaryOp .FloorDiv (.int a t) (.int b u)) Q st := fun _ _ R => PyProof.Rows.floordiv_int hb (.mk R (q _)) (.inl (PyProof.noPylong_small hs))
theorem w_powInt (h0 : 0 ≤ b) (hs : (Builtin.Int.intBits a : Int) * b ≤ 2 ^ 27) (q : ∀ t', Q (.int (a ^ b.toNat) t') st) : W c (binaryOp .Pow (.int a t) (.int b u)) Q st := fun _ _ R => PyProof.Rows.pow_int h0 hs (.mk R (q _))
theorem w_negInt (q : ∀ t', Q (.int (-a) t') st) : W c (unaryOp .USub (.int a t)) Q st := fun _ _ R => PyProof.Rows.neg_int (.mk R (q _))
theorem w_eqInt (q : Q (.bool (a == b)) st) : W c (compareOp .Eq (.int a t) (.int b u)) Q st := fun _ _ R => PyProof.Rows.eq_int (.mk R q)
theorem w_ltInt (q : Q (.bool (decide (a < b))) st) : W c (compareOp .Lt (.int a t) (.int b u)) Q st := fun _ _ R => PyProof.Rows.lt_int (.mk R q)
theorem w_leInt (q : Q (.bool (decide (a ≤ b))) st) : W c (compareOp .LtE (.int a t) (.int b u)) Q st := fun _ _ R => PyProof.Rows.le_int (.mk R q)
theorem w_gtInt (q : Q (.bool (decide (b < a))) st) : W c (compareOp .Gt (.int a t) (.int b u)) Q st := fun _ _ R => PyProof.Rows.gt_int (.mk R q)
theorem w_geInt (q : Q (.bool (decide (b ≤ a))) st) : W c (compareOp .GtE (.int a t) (.int b u)) Q st := fun _ _ R => PyProof.Rows.ge_int (.mk R q)
end

theorem w_nameL {env : Env} {c : Cx} {l : List (Str × Value)} {mu : Led} {x : Str} {pos : Pos} {v : Value} {Q : Value → St → Prop} (hv : ofBinds l x = some v) (q : Q v ⟨ofBinds l, mu⟩) (hL : env.locals = c.L := by rfl) (hk : env.scope.kind = .function := by rfl)
    (hx : env.kindOf x = some .local := by rfl) (hd : (x == ("__debug__" : Str)) = false := by decide +kernel) : W c (eval (.Name x pos) env) Q ⟨ofBinds l, mu⟩ := w_name hv q hL hk hx hd
theorem guardG {env : Env} {x : Str} {pos : Pos} {c : Cx} {st : St} {Q : Value → St → Prop} (_ : env.kindOf x = some .globalImplicit) (h : W c (eval (.Name x pos) env) Q st) : W c (eval (.Name x pos) env) Q st := h
theorem Calls.fn {prog : Program} {w : World} {O : Heap} {A : Around} {g : Kn} {mu : Led} {Q : Value → Led → Prop} {f : Addr} {args : List Value} {n : Nat} {K : Frag} {mg mb : Str → Option Value}
    {oc : Value} {od : Option Addr} {osl : Array (Option Value)} {name qual : Str} {params : Arguments} {body : List Stmt} {scope : Scope} {dV kV doc pm cdv ct : Value} {an : Option Addr} (binds : List (Str × Value))
    (G : Gnd K O mg mb) (hA : Amb A (n + 1))
    (ho : K.lookup f = some ⟨oc, od, .func (fnOf name qual params body scope dV kV doc pm an cdv ct), osl⟩) (hcd : codeIn K cdv qual = true)
    (hbind : ∀ s : Shared, (∀ a o, O.get? a = some o → s.heap.get? a = some o) → BindsTo s (fnOf name qual params body scope dV kV doc pm an cdv ct) ⟨args, []⟩ binds.reverse)
    (hloc : ∀ y ∈ binds.reverse, scope.names.lookup y.1 = some .local)
    (hw : ∀ L s, let env := envOf qual scope L f cdv; let c : Cx := ⟨prog, w, O, A.deeper env, g, L, s⟩; Amb c.A n → Gnd K c.O mg mb → W c (execs body env) (fun fl st' => Q (flowVal fl) st'.mu) ⟨ofBinds binds, mu⟩)
    (hco : scope.isCoroutine = false) (hgen : scope.isGenerator = false) (hk : scope.kind = .function)
    (hcell : ∀ x ∈ scope.names, x.2 ≠ .cell) : Calls prog w O A (.ref f) args g mu Q :=
  Calls.def G.nolimit hA.depth (G.X _ _ ho) (codeRec_of G.X hcd) hbind hloc (fun L s => by rw [List.reverse_reverse]; exact hw L s hA.deeper G) hco hgen hk hcell
end
end Mine
end -- L5

section -- L6
open PySem PySem.W PySem.Calls PyProof.Rows PySem.Builtin

namespace Mine

noncomputable def SV (x : Str) (v : Value) : Prop := ∃ t, v = .str x t
noncomputable def IV (i : Int) (v : Value) : Prop := ∃ t, v = .int i t
noncomputable def NV' (i : Nat) (v : Value) : Prop := ∃ t, v = .int i t
noncomputable def PV : Option Nat → Value → Prop
  | none, v => v = .none
  | some i, v => NV' i v
/-- two lists, side by side -/
noncomputable def Each {α β : Type} (R : α → β → Prop) : List α → List β → Prop
  | [], [] => True
  | x :: xs, y :: ys => R x y ∧ Each R xs ys
  | _, _ => False
namespace Each
variable {α β : Type} {R S : α → β → Prop}
theorem len : ∀ {xs : List α} {ys : List β}, Each R xs ys → xs.length = ys.length
  | [], [], _ => rfl
  | _ :: xs, _ :: ys, h => by rw [List.length_cons, List.length_cons, len h.2]
  | [], _ :: _, h => h.elim
  | _ :: _, [], h => h.elim
theorem get : ∀ {xs : List α} {ys : List β} {i : Nat} {x : α}, Each R xs ys → xs[i]? = some x → ∃ y, ys[i]? = some y ∧ R x y
  | [], [], _, _, _, e => by simp at e
  | x :: xs, y :: ys, 0, z, h, e => by
    simp at e
    subst e
    exact ⟨y, rfl, h.1⟩
  | x :: xs, y :: ys, i + 1, z, h, e => by
    simp at e
    obtain ⟨y', e', r⟩ := get h.2 e
    exact ⟨y', by simpa using e', r⟩
  | [], _ :: _, _, _, h, _ => h.elim
  | _ :: _, [], _, _, h, _ => h.elim
theorem get' : ∀ {xs : List α} {ys : List β} {i : Nat} {y : β}, Each R xs ys → ys[i]? = some y → ∃ x, xs[i]? = some x ∧ R x y
  | [], [], _, _, _, e => by simp at e
  | x :: xs, y :: ys, 0, z, h, e => by
    simp at e
    subst e
    exact ⟨x, rfl, h.1⟩
  | x :: xs, y :: ys, i + 1, z, h, e => by
    simp at e
    obtain ⟨y', e', r⟩ := get' h.2 e
    exact ⟨y', by simpa using e', r⟩
  | [], _ :: _, _, _, h, _ => h.elim
  | _ :: _, [], _, _, h, _ => h.elim
theorem mono (k : ∀ x y, R x y → S x y) : ∀ {xs : List α} {ys : List β}, Each R xs ys → Each S xs ys
  | [], [], _ => trivial
  | _ :: _, _ :: _, h => ⟨k _ _ h.1, mono k h.2⟩
  | [], _ :: _, h => h.elim
  | _ :: _, [], h => h.elim
theorem app : ∀ {xs xs' : List α} {ys ys' : List β}, Each R xs ys → Each R xs' ys' → Each R (xs ++ xs') (ys ++ ys')
  | [], _, [], _, _, h => h
  | _ :: _, _, _ :: _, _, h, h' => ⟨h.1, app h.2 h'⟩
  | [], _, _ :: _, _, h, _ => h.elim
  | _ :: _, _, [], _, h, _ => h.elim
theorem snoc {xs : List α} {ys : List β} {x : α} {y : β} (h : Each R xs ys) (r : R x y) : Each R (xs ++ [x]) (ys ++ [y]) := app h ⟨r, trivial⟩
theorem rev : ∀ {xs : List α} {ys : List β}, Each R xs ys → Each R xs.reverse ys.reverse
  | [], [], _ => trivial
  | _ :: _, _ :: _, h => by rw [List.reverse_cons, List.reverse_cons]; exact (rev h.2).snoc h.1
  | [], _ :: _, h => h.elim
  | _ :: _, [], h => h.elim
theorem inv {x : α} {xs : List α} {zs : List β} (h : Each R (x :: xs) zs) : ∃ y ys, zs = y :: ys ∧ R x y ∧ Each R xs ys := by
  cases zs with
  | nil => exact h.elim
  | cons y ys => exact ⟨y, ys, rfl, h.1, h.2⟩
theorem nilv {zs : List β} (h : Each R ([] : List α) zs) : zs = [] := by
  cases zs with
  | nil => rfl
  | cons y ys => exact h.elim
theorem appInv : ∀ {xs xs' : List α} {zs : List β}, Each R (xs ++ xs') zs → ∃ ys ys', zs = ys ++ ys' ∧ Each R xs ys ∧ Each R xs' ys'
  | [], _, zs, h => ⟨[], zs, rfl, trivial, h⟩
  | x :: xs, xs', zs, h => by
    obtain ⟨y, ys, rfl, r, h'⟩ := inv h
    obtain ⟨y1, y2, rfl, h1, h2⟩ := appInv h'
    exact ⟨y :: y1, y2, rfl, ⟨r, h1⟩, h2⟩
theorem split : ∀ {xs : List α} {ys : List β} {j : Nat}, Each R xs ys → j < ys.length → ∃ xp x xr yp y yr, xs = xp ++ x :: xr ∧ ys = yp ++ y :: yr ∧ yp.length = j ∧ Each R xp yp ∧ R x y ∧ Each R xr yr
  | [], [], _, _, h => absurd h (Nat.not_lt_zero _)
  | x :: xs, y :: ys, 0, h, _ => ⟨[], x, xs, [], y, ys, rfl, rfl, rfl, trivial, h.1, h.2⟩
  | x :: xs, y :: ys, j + 1, h, hj => by
    obtain ⟨xp, a, xr, yp, b, yr, rfl, rfl, e, h1, h2, h3⟩ := split h.2 (Nat.lt_of_succ_lt_succ hj)
    exact ⟨x :: xp, a, xr, y :: yp, b, yr, rfl, rfl, by rw [List.length_cons, e], ⟨h.1, h1⟩, h2, h3⟩
  | [], _ :: _, _, h, _ => h.elim
  | _ :: _, [], _, h, _ => h.elim
end Each

/-! the tree -/
structure NR where
  kind : Str
  name : Str
  uri : Str
  loc : Str
  value : Str
  parent : Option Nat
  ch : List Nat
  ats : List Nat
  nss : List Nat
structure NV where
  y : Addr
  e : Addr
  c : Addr
  a : Addr
  n : Addr
  kv : Value
  nv : Value
  uv : Value
  lv : Value
  vv : Value
  pv : Value
  cs : List Value
  as : List Value
  ns : List Value
structure RowIs (r : NR) (v : NV) : Prop where
  kind : SV r.kind v.kv
  name : SV r.name v.nv
  uri : SV r.uri v.uv
  loc : SV r.loc v.lv
  value : SV r.value v.vv
  parent : PV r.parent v.pv
  ch : Each NV' r.ch v.cs
  ats : Each NV' r.ats v.as
  nss : Each NV' r.nss v.ns
  small : r.ch.length ≤ 100000 ∧ r.ats.length ≤ 100000 ∧ r.nss.length ≤ 100000
theorem SV.handed {x : Str} {v : Value} (h : SV x v) : handedIn v = true := by obtain ⟨t, rfl⟩ := h; rfl
theorem PV.handed {x : Option Nat} {v : Value} (h : PV x v) : handedIn v = true := by
  cases x with
  | none => cases h; rfl
  | some i => obtain ⟨t, rfl⟩ := h; rfl
noncomputable def attsOf (v : NV) : List (Str × Value) := [("kind", v.kv), ("name", v.nv), ("uri", v.uv), ("local", v.lv), ("value", v.vv), ("parent", v.pv), ("children", .ref v.c), ("attributes", .ref v.a), ("namespaces", .ref v.n)]
noncomputable def rowLed (v : NV) : Led := [(v.n, .lst v.ns), (v.a, .lst v.as), (v.c, .lst v.cs), (v.y, .inst 161 v.e), (v.e, .att (attsOf v))]
structure TA where
  x : Addr
  d : Addr
  r : Addr
  vs : List NV
noncomputable def treeLed (T : TA) : Led := (T.x, .inst 350 T.d) :: (T.d, .att [("rows", .ref T.r)]) :: (T.r, .lst (T.vs.map fun v => .ref v.y)) :: T.vs.flatMap rowLed
structure TreeIs (T : TA) (t : List NR) : Prop where
  rows : Each RowIs t T.vs
  small : t.length ≤ 100000
noncomputable def inG (g : Kn) (mu : Led) : Prop := ∀ p ∈ mu, g p.1 p.2

theorem inG.mono {g g' : Kn} {mu : Led} (h : inG g mu) (k : ∀ a sh, g a sh → g' a sh) : inG g' mu := fun p hp => k _ _ (h p hp)
theorem row_in {T : TA} {v : NV} {i : Nat} (hv : T.vs[i]? = some v) : ∀ p ∈ rowLed v, p ∈ treeLed T := fun p hp =>
  .tail _ (.tail _ (.tail _ (List.mem_flatMap.mpr ⟨v, List.mem_of_getElem? hv, hp⟩)))
section
variable {g : Kn} {T : TA} {v : NV} {i : Nat}
theorem tg1 (h : inG g (treeLed T)) : g T.x (.inst 350 T.d) := h (_, _) (.head _)
theorem tg2 (h : inG g (treeLed T)) : g T.d (.att [("rows", .ref T.r)]) := h (_, _) (.tail _ (.head _))
theorem tg3 (h : inG g (treeLed T)) : g T.r (.lst (T.vs.map fun v => .ref v.y)) := h (_, _) (.tail _ (.tail _ (.head _)))
theorem rg1 (h : inG g (treeLed T)) (hv : T.vs[i]? = some v) : g v.y (.inst 161 v.e) := h (_, _) (row_in hv _ (.tail _ (.tail _ (.tail _ (.head _)))))
theorem rg2 (h : inG g (treeLed T)) (hv : T.vs[i]? = some v) : g v.e (.att (attsOf v)) := h (_, _) (row_in hv _ (.tail _ (.tail _ (.tail _ (.tail _ (.head _))))))
theorem rg3 (h : inG g (treeLed T)) (hv : T.vs[i]? = some v) : g v.c (.lst v.cs) := h (_, _) (row_in hv _ (.tail _ (.tail _ (.head _))))
theorem rg4 (h : inG g (treeLed T)) (hv : T.vs[i]? = some v) : g v.a (.lst v.as) := h (_, _) (row_in hv _ (.tail _ (.head _)))
theorem rg5 (h : inG g (treeLed T)) (hv : T.vs[i]? = some v) : g v.n (.lst v.ns) := h (_, _) (row_in hv _ (.head _))
end
end Mine
end -- L6

section -- L7
open PySem PySem.W PySem.Calls PyProof.Rows PySem.Builtin PySem.Builtin.Str

namespace Mine
section
variable {c : Cx} {st : St} {env : Env}

/-! loops -/
noncomputable def forSem (v : Value) (target : Expr) (body : List Stmt) (env : Env) : Sem Flow := do runOwn (.forLoop target (← PySem.holding [v] (pyIter v)) body [] env) env

theorem w_for {target iter body pos} {Q : Flow → St → Prop} (hw : W c (eval iter env) (fun v st₁ => W c (forSem v target body env) Q st₁) st)
    (hs : ∀ x, foldedSetIterable iter env x = pure x := by intro _; rfl) : W c (exec (.For target iter body [] pos) env) Q st := by
  rw [exec_For]
  refine w_bind (w_standAt (w_bind (hw.mono fun v st₁ h₁ => w_bind (w_eq (hs v) (w_pure (w_bind (w_standAt ?_)))))))
  exact h₁

structure Itr (c : Cx) (I : Addr) (fp : List Addr) (n : Nat) (P : Nat → Value → Prop) (S : Nat → Heap → Prop) : Prop where
  wk : Walks c.prog c.w c.A I fp [I] n P S
  ex : ∀ i h, S i h → ∃ o, h.get? I = some o
  stay : ∀ i h h', S i h → (∀ a sh, c.g a sh → At c.prog c.w h' a sh) → (∀ o, h.get? I = some o → h'.get? I = some o) → S i h'

/-- how a turn ends -/
noncomputable def Turn (J : St → Prop) (Q : Flow → St → Prop) (f : Flow) (st : St) : Prop := match f with
  | .next => J st
  | .cont => J st
  | .brk => Q .next st
  | .ret v => Q (.ret v) st
theorem Turn.next {J : St → Prop} {Q : Flow → St → Prop} (h : J st) : Turn J Q .next st := h
theorem Turn.ret {J : St → Prop} {Q : Flow → St → Prop} {v : Value} (h : Q (.ret v) st) : Turn J Q (.ret v) st := h
noncomputable def Drops (target : Expr) (I : Addr) (S : Nat → Heap → Prop) (c : Cx) : Prop := ∀ (i : Nat) (v : Value) (s : Shared) (Q : Unit → Shared → Prop) (E : Value → Shared → Prop), S i s.heap → Q () s → wpAny (model c.prog c.w) c.A (letOwnedTupleGo target (.ref I) v) Q E s

theorem forWalk {I : Addr} {fp : List Addr} {n : Nat} {P : Nat → Value → Prop} {S : Nat → Heap → Prop} {target : Expr} {body : List Stmt} {Q : Flow → St → Prop} (it : Itr c I fp n P S) (J : Nat → St → Prop) (dr : Drops target I S c)
    (turn : ∀ i v st g', i < n → P i v → J i st → (∀ a sh, c.g a sh → g' a sh) → W (c.sg (g')) (assign target env v) (fun _ st₂ => W (c.sg (g')) (execs body env) (Turn (J (i + 1)) Q) st₂) st)
    (fin : ∀ st, J n st → Q .next st) {h : Heap} {tk : Nat} {m : Str → Option Value} {mu : Led} {oI : Obj} (R : Rel c ⟨m, (I, .obj oI) :: mu⟩ h) (hS : S 0 h) (hJ : J 0 ⟨m, mu⟩) {E : Value → Shared → Prop} :
    codeAny (model c.prog c.w) c.A (.forLoop target (.ref I) body [] env) (fun r s' => match r with | .ok f => Post c Q f s' | .error e => E e s') { c.s with heap := h, toks := tk + 1 } := by
  refine codeAny_forLoop_any (fun k s' => ∃ i h tk st oI, s' = { c.s with heap := h, toks := tk + 1 } ∧ i ≤ n ∧ k = n - i ∧ Rel c ⟨st.m, (I, .obj oI) :: st.mu⟩ h ∧ S i h ∧ J i st) ?_ (n - 0) ⟨0, h, tk, ⟨m, mu⟩, oI, rfl, Nat.zero_le _, rfl, R, hS, hJ⟩
  rintro k _ ⟨i, h, tk, st, oI, rfl, hi, rfl, R, hS, hJ⟩
  have away : ∀ h' : Heap, (∀ b o, b ∉ [I] → h.get? b = some o → h'.get? b = some o) → ∀ oI', h'.get? I = some oI' → Rel c ⟨st.m, (I, .obj oI') :: st.mu⟩ h' := fun h' hk oI' e' =>
    R.turn Up.head ⟨oI', e', rfl⟩ fun b o hb e => hk b o (by simpa using hb) e
  by_cases hlt : i < n
  · refine wpAny_with_toks (n := 1) (Nat.succ_pos _) (it.wk.item i _ _ _ hlt hS fun v h' tk' hP hS' hk htk => ?_)
    obtain ⟨tk', rfl⟩ : ∃ j, tk' = j + 1 := ⟨tk' - 1, by have : 1 ≤ tk' := htk; omega⟩
    obtain ⟨oI', eI'⟩ := it.ex _ _ hS'
    have R' := away h' hk oI' eI'
    refine dr _ _ _ _ _ hS' ?_
    have R2 : Rel (c.sg (ext c.g [(I, .obj oI')])) st h' := Rel.freeze (fr := [(I, .obj oI')]) R'
    refine (turn i v st _ hlt hP hJ (fun a sh k => .inl k)).conv (c := (c.sg (ext c.g [(I, .obj oI')]))) R2 fun _ st₂ h₂ tk₂ R₂ q₂ => ?_
    refine q₂.conv (c := (c.sg (ext c.g [(I, .obj oI')]))) R₂ fun f st₃ h₃ tk₃ R₃ q₃ => ?_
    have R4 : Rel c ⟨st₃.m, (I, .obj oI') :: st₃.mu⟩ h₃ := Rel.thaw (fr := [(I, .obj oI')]) R' R₃
    have e3 : h₃.get? I = some oI' := by
      obtain ⟨o, e, q⟩ := R4.led _ (.head _)
      have q' : o = oI' := q
      exact q' ▸ e
    have S3 : S (i + 1) h₃ := it.stay _ _ _ hS' R4.fz fun o e => by rw [eI'] at e; cases e; exact e3
    have R5 : Rel c st₃ h₃ := R4.sub (List.sublist_cons_self _ _)
    cases f with
    | next => exact ⟨n - (i + 1), by omega, i + 1, h₃, tk₃, st₃, oI', rfl, hlt, rfl, R4, S3, q₃⟩
    | cont => exact ⟨n - (i + 1), by omega, i + 1, h₃, tk₃, st₃, oI', rfl, hlt, rfl, R4, S3, q₃⟩
    | brk => exact .mk R5 q₃
    | ret v => exact .mk R5 q₃
  · have hin : i = n := Nat.le_antisymm hi (Nat.not_lt.mp hlt)
    subst hin
    refine it.wk.done _ _ _ hS fun h' tk' hk => ?_
    obtain ⟨o, e⟩ := it.ex _ _ hS
    refine wpAny_execs_nil ?_
    have R' : Rel c st h' := by
      have R1 := R.sub (mu' := st.mu) (List.sublist_cons_self _ _)
      have key : ∀ b o, b ≠ I → h.get? b = some o → h'.get? b = some o := fun b o hb e => hk b o (by simpa using hb) e
      have nI : ∀ p ∈ st.mu, p.1 ≠ I := fun p hp e' => by
        have := R.nd
        rw [List.map_cons] at this
        exact (List.nodup_cons.mp this).1 (e' ▸ List.mem_map_of_mem (f := (·.1)) hp)
      exact ⟨R1.ns.at' fun o e => key _ o (fun e' => R.Lmu _ (.head _) e'.symm) e, fun a sh k => (R1.fz a sh k).keeps fun o e => key a o (fun e' => R.dj _ (.head _) sh (by rw [← e']; exact k)) e,
        fun p hp => (R1.led p hp).keeps fun o e => key _ o (nI p hp) e, R1.nd, R1.dj, R1.gr, R1.Lmu, R1.Lg, R1.above⟩
    exact .mk R' (fin _ hJ)

theorem dr_name {x : Str} {pos : Pos} {I : Addr} {S : Nat → Heap → Prop} : Drops (.Name x pos) I S c := fun _ _ _ _ _ _ q => wpAny_of_eq rfl q
theorem dr_tupL {elts x1 pos} {I a : Addr} {vs : List Value} : Drops (.Tuple elts x1 pos) I (fun i h => h.IsListIter I a i ∧ h.IsList a vs.toArray) c := fun i v s Q E hS q => by
  cases v with
  | ref T => exact wpAny_letOwnedTupleGo_listiter hS.1 q
  | _ => exact wpAny_of_eq rfl q
theorem wpAny_letOwnedTupleGo_tupiter {prog : Program} {w : World} {A : Around} {E : Value → Shared → Prop} {s : Shared} {elts : List Expr} {x1} {pos : Pos} {I l T : Addr} {i : Nat} {Q : Unit → Shared → Prop} (hit : s.heap.IsTupleIter I l i) (hQ : Q () s) :
    wpAny (model prog w) A (letOwnedTupleGo (.Tuple elts x1 pos) (.ref I) (.ref T)) Q E s := by
  obtain ⟨o, ho, hc, hd⟩ := hit
  unfold letOwnedTupleGo
  refine wpAny_bind (wpAny_load ho ?_)
  rw [hc, hd]
  show wpAny _ A (if (["enumerate", "zip", "dict_itemiterator", "dict_reverseitemiterator", "odict_iterator", "itertools.zip_longest", "itertools.pairwise"].contains "tuple_iterator" &&
      (#[.ref l, .int i 0] : Array Value)[0]? == some (rawInt T)) = true then _ else _) Q E s
  rw [if_neg (by
    intro h
    rw [show (["enumerate", "zip", "dict_itemiterator", "dict_reverseitemiterator", "odict_iterator", "itertools.zip_longest", "itertools.pairwise"].contains "tuple_iterator") = false from by decide, Bool.false_and] at h
    cases h)]
  exact wpAny_pure hQ
theorem dr_tupT {elts x1 pos} {I a : Addr} {vs : List Value} : Drops (.Tuple elts x1 pos) I (fun i h => h.IsTupleIter I a i ∧ h.IsTuple a vs.toArray) c := fun i v s Q E hS q => by
  cases v with
  | ref T => exact wpAny_letOwnedTupleGo_tupiter hS.1 q
  | _ => exact wpAny_of_eq rfl q

theorem itr_lst {I a : Addr} {vs : List Value} (hh : c.A.handled = none) (k : c.g a (.lst vs)) (hne : a ≠ I) : Itr c I [I, a] vs.length (fun i v => vs[i]? = some v) (fun i h => h.IsListIter I a i ∧ h.IsList a vs.toArray) where
  wk := by
    have := Walks.list (prog := c.prog) (w := c.w) (A := c.A) hh I a hne vs.toArray
    simpa using this
  ex := fun _ _ hS => let ⟨o, e, _⟩ := hS.1; ⟨o, e⟩
  stay := fun _ _ _ hS hk hI => ⟨hS.1.at hI, Sh.lst_is (hk _ _ k)⟩
theorem itr_tup {I a : Addr} {vs : List Value} (hh : c.A.handled = none) (k : c.g a (.tup vs)) (hne : a ≠ I) : Itr c I [I, a] vs.length (fun i v => vs[i]? = some v) (fun i h => h.IsTupleIter I a i ∧ h.IsTuple a vs.toArray) where
  wk := by
    have := Walks.tuple (prog := c.prog) (w := c.w) (A := c.A) hh I a hne vs.toArray
    simpa using this
  ex := fun _ _ hS => let ⟨o, e, _⟩ := hS.1; ⟨o, e⟩
  stay := fun _ _ _ hS hk hI => ⟨hS.1.at hI, Sh.tup_is (hk _ _ k)⟩

/-- what can be walked: a value whose iterator gives n things, P each -/
noncomputable def Src (c : Cx) (v : Value) (target : Expr) (n : Nat) (P : Nat → Value → Prop) : Prop :=
  ∀ (m : Str → Option Value) (mu : Led) (h : Heap) (tk : Nat) (Q : Value → Shared → Prop) (E : Value → Shared → Prop), Rel c ⟨m, mu⟩ h →
    (∀ I oI h' tk' fp S, Itr c I fp n P S → Drops target I S c → S 0 h' → Rel c ⟨m, (I, .obj oI) :: mu⟩ h' → Q (.ref I) { c.s with heap := h', toks := tk' + 1 }) →
    wpAny (model c.prog c.w) c.A (pyIter v) Q E { c.s with heap := h, toks := tk + 1 }

theorem src_lst {a : Addr} {vs : List Value} {target : Expr} (hh : c.A.handled = none) (k : c.g a (.lst vs)) (dr : ∀ I, Drops target I (fun i h => h.IsListIter I a i ∧ h.IsList a vs.toArray) c) : Src c (.ref a) target vs.length (fun i v => vs[i]? = some v) := by
  intro m mu h tk Q E R fin
  have hl := Sh.lst_is (R.fz _ _ k)
  have hne : a ≠ h.objs.size := Nat.ne_of_lt (R.fz _ _ k).lt
  refine wpAny_pyIter_list hl ?_
  have R1 := R.alloc (o := { cls := .type "list_iterator", data := .fields #[.ref a, .int 0 0] }) (sh := .obj _) rfl rfl
  exact fin _ _ _ tk _ _ (itr_lst hh k hne) (dr _) ⟨⟨_, Heap.get?_push_size _ rfl, rfl, rfl⟩, hl.at fun o e => Heap.get?_push_of_some _ e⟩ R1
theorem src_tup {a : Addr} {vs : List Value} {target : Expr} (hh : c.A.handled = none) (k : c.g a (.tup vs)) (dr : ∀ I, Drops target I (fun i h => h.IsTupleIter I a i ∧ h.IsTuple a vs.toArray) c) : Src c (.ref a) target vs.length (fun i v => vs[i]? = some v) := by
  intro m mu h tk Q E R fin
  have hl : h.IsTuple a vs.toArray := Sh.tup_is (R.fz _ _ k)
  have hne : a ≠ h.objs.size := Nat.ne_of_lt (R.fz _ _ k).lt
  refine wpAny_pyIter_tuple hl ?_
  have R1 := R.alloc (o := { cls := .type "tuple_iterator", data := .fields #[.ref a, .int 0 0] }) (sh := .obj _) rfl rfl
  exact fin _ _ _ tk _ _ (itr_tup hh k hne) (dr _) ⟨⟨_, Heap.get?_push_size _ rfl, rfl, rfl⟩, hl.at fun o e => Heap.get?_push_of_some _ e⟩ R1
abbrev rangeObj (n : Nat) (t u v : Tok) : Obj := { cls := .type "range", data := .fields #[.int 0 t, .int n u, .int 1 v] }
theorem src_range {r : Addr} {n : Nat} {t u v : Tok} {x : Str} {pos : Pos} (hh : c.A.handled = none) (k : c.g r (.obj (rangeObj n t u v))) (hn : n < 2 ^ 62) : Src c (.ref r) (.Name x pos) n (fun i v => ∃ t, v = .int (i : Int) t) := by
  intro m mu h tk Q E R fin
  obtain ⟨o, e, q⟩ := R.fz _ _ k
  have q' : o = rangeObj n t u v := q
  subst q'
  have hsz : Builtin.Range.rangeSize 0 (n : Int) 1 = (n : Int) := by rw [rangeSize_one]; split <;> omega
  refine wpAny_pyIter_range (a := 0) (b := n) (c := 1) e (small_one (by decide) (by decide) (by omega) (by omega)) ?_
  have R1 := R.alloc (o := { cls := .type "range_iterator", data := .fields #[rawInt 0, rawInt (Builtin.Range.rangeSize 0 (n : Int) 1), rawInt 1] }) (sh := .obj _) rfl rfl
  have wk := Walks.range (prog := c.prog) (w := c.w) (A := c.A) hh h.objs.size 0 1 n
  refine fin _ _ _ tk [h.objs.size] (fun i h' => IsRangeIter h' h.objs.size (0 + (i : Nat) * 1) ((n : Int) - (i : Nat)) 1) ⟨?_, fun _ _ hS => ⟨_, hS⟩, fun _ _ _ hS _ hI => hI _ hS⟩ dr_name ?_ R1
  · have e : (fun (i : Nat) v => ∃ t, v = Value.int (0 + (i : Int) * 1) t) = fun (i : Nat) v => ∃ t, v = Value.int (i : Int) t := by
      funext i v
      rw [Int.zero_add, Int.mul_one]
    rw [e] at wk
    exact wk
  · show IsRangeIter _ _ _ _ _
    rw [hsz]
    simpa using Heap.get?_push_size (h := h) (o := { cls := .type "range_iterator", data := .fields #[rawInt 0, rawInt (n : Int), rawInt 1] }) rfl
theorem src_str {y : Str} {t : Tok} {x : Str} {pos : Pos} (hh : c.A.handled = none) : Src c (.str y t) (.Name x pos) y.cps.size (SignAt y) := by
  intro m mu h tk Q E R fin
  cases ha : y.cps.all (· < 128)
  · refine wpAny_pyIter_wide ha ?_
    have R1 := R.alloc (o := { cls := .type "str_iterator", data := .fields #[.str y t, .int 0 0] }) (sh := .obj _) rfl rfl
    exact fin _ _ _ tk [h.objs.size] _ ⟨Walks.strWide hh h.objs.size y t, fun _ _ hS => let ⟨o, e, _⟩ := hS; ⟨o, e⟩, fun _ _ _ hS _ hI => let ⟨o, e, r⟩ := hS; ⟨o, hI o e, r⟩⟩ dr_name ⟨_, Heap.get?_push_size _ rfl, rfl, rfl⟩ R1
  · refine wpAny_pyIter_ascii ha ?_
    have R1 := R.alloc (o := { cls := .type "str_ascii_iterator", data := .fields #[.str y t, .int 0 0] }) (sh := .obj _) rfl rfl
    exact fin _ _ _ tk [h.objs.size] _ ⟨Walks.strAscii hh h.objs.size y t, fun _ _ hS => let ⟨o, e, _⟩ := hS; ⟨o, e⟩, fun _ _ _ hS _ hI => let ⟨o, e, r⟩ := hS; ⟨o, hI o e, r⟩⟩ dr_name ⟨_, Heap.get?_push_size _ rfl, rfl, rfl⟩ R1

theorem w_forSrc {v : Value} {n : Nat} {P : Nat → Value → Prop} {target : Expr} {body : List Stmt} {m : Str → Option Value} {mu : Led} {Q : Flow → St → Prop} (src : Src c v target n P) (J : Nat → St → Prop)
    (h0 : J 0 ⟨m, mu⟩)
    (turn : ∀ i v st g', i < n → P i v → J i st → (∀ a sh, c.g a sh → g' a sh) → W (c.sg (g')) (assign target env v) (fun _ st₂ => W (c.sg (g')) (execs body env) (Turn (J (i + 1)) Q) st₂) st)
    (fin : ∀ st, J n st → Q .next st) : W c (forSem v target body env) Q ⟨m, mu⟩ := by
  intro h tk R
  refine wpAny_bind (wpAny_holding (src m mu h tk _ _ R fun I oI h' tk' fp S it dr hS R' => ?_))
  refine wpAny_runOwn ?_ (by intro x; cases x)
  exact forWalk it J dr turn fin R' hS h0

/-- while, turn by turn, over a measure -/
theorem w_while {test body pos} {Q : Flow → St → Prop} (J : Nat → St → Prop) (n : Nat) (h0 : J n st)
    (turn : ∀ n st, J n st → W c (isTrue test env (eval test env)) (fun b st₁ => Br b (W c (execs body env) (Turn (fun st' => ∃ m, m < n ∧ J m st') Q) st₁) (Q .next st₁)) st) : W c (exec (.While test body [] pos) env) Q st := by
  intro h tk R
  refine wpAny_While ?_
  refine codeAny_whileLoop (fun k s' => ∃ h tk st, s' = { c.s with heap := h, toks := tk + 1 } ∧ Rel c st h ∧ J k st) ?_ n ⟨h, tk, st, rfl, R, h0⟩
  rintro k _ ⟨h, tk, st, rfl, R, hJ⟩
  refine (turn k st hJ).conv R fun b st₁ h₁ tk₁ R₁ q₁ => ?_
  cases b with
  | false => exact wpAny_execs_nil (.mk R₁ q₁)
  | true =>
    refine W.conv (Q := Turn (fun st' => ∃ m, m < k ∧ J m st') Q) q₁ R₁ fun f st₂ h₂ tk₂ R₂ q₂ => ?_
    cases f with
    | next => obtain ⟨m, hm, hJ'⟩ := q₂; exact ⟨m, hm, h₂, tk₂, st₂, rfl, R₂, hJ'⟩
    | cont => obtain ⟨m, hm, hJ'⟩ := q₂; exact ⟨m, hm, h₂, tk₂, st₂, rfl, R₂, hJ'⟩
    | brk => exact .mk R₂ q₂
    | ret v => exact .mk R₂ q₂
end
end Mine
end -- L7

section -- L8
open PySem PySem.W PySem.Calls PyProof.Rows PySem.Builtin

namespace Mine
section
variable {c : Cx} {st : St} {env : Env} {h : Heap}

theorem Rel.dropHead {m : Str → Option Value} {I : Addr} {sh : Sh} {mu : Led} {h' : Heap} (R : Rel c ⟨m, (I, sh) :: mu⟩ h) (key : ∀ b o, b ≠ I → h.get? b = some o → h'.get? b = some o) : Rel c ⟨m, mu⟩ h' := by
  have R1 := R.sub (mu' := mu) (List.sublist_cons_self _ _)
  have nI : ∀ p ∈ mu, p.1 ≠ I := fun p hp e' => by
    have := R.nd
    rw [List.map_cons] at this
    exact (List.nodup_cons.mp this).1 (e' ▸ List.mem_map_of_mem (f := (·.1)) hp)
  exact ⟨R1.ns.at' fun o e => key _ o (fun e' => R.Lmu _ (.head _) e'.symm) e, fun a sh k => (R1.fz a sh k).keeps fun o e => key a o (fun e' => R.dj _ (.head _) sh (by rw [← e']; exact k)) e,
    fun p hp => (R1.led p hp).keeps fun o e => key _ o (nI p hp) e, R1.nd, R1.dj, R1.gr, R1.Lmu, R1.Lg, R1.above⟩
theorem Rel.addObj {m : Str → Option Value} {C : Addr} {oC : Obj} {mu : Led} (R : Rel c ⟨m, mu⟩ h) (e : h.get? C = some oC) (hg : ∀ sh, ¬ c.g C sh) (hL : C ≠ c.L) (hmu : ∀ p ∈ mu, p.1 ≠ C) : Rel c ⟨m, (C, .obj oC) :: mu⟩ h where
  ns := R.ns
  fz := R.fz
  led := fun p hp => by
    rcases List.mem_cons.mp hp with rfl | hp
    · exact ⟨oC, e, rfl⟩
    · exact R.led p hp
  nd := by
    rw [List.map_cons]
    refine List.nodup_cons.mpr ⟨fun hm => ?_, R.nd⟩
    obtain ⟨p, hp, e⟩ := List.mem_map.mp hm
    exact hmu p hp e
  dj := fun p hp sh k => by
    rcases List.mem_cons.mp hp with rfl | hp
    · exact hg sh k
    · exact R.dj p hp sh k
  gr := R.gr
  Lmu := fun p hp => by
    rcases List.mem_cons.mp hp with rfl | hp
    · exact hL
    · exact R.Lmu p hp
  Lg := R.Lg
  above := R.above

/-- a store over any map -/
noncomputable def over (x : Str) (v : Value) (m : Str → Option Value) : Str → Option Value := fun y => if y = x then some v else m y
theorem over_here {x : Str} {v : Value} {m : Str → Option Value} : over x v m x = some v := by simp [over]
theorem over_skip {x y : Str} {u : Value} {r : Option Value} {m : Str → Option Value} (h : (x == y) = false) (hl : m x = r) : over y u m x = r := by
  show (if x = y then some u else m x) = r
  rw [if_neg (by simpa using h)]; exact hl
theorem w_putO {x : Str} {v : Value} {m : Str → Option Value} {mu : Led} {Q : Unit → St → Prop} (q : Q () ⟨over x v m, mu⟩) (hL : env.locals = c.L := by rfl) (hk : env.scope.kind = .function := by rfl)
    (hx : env.kindOf x = some .local := by rfl) : W c (storeName env x v) Q ⟨m, mu⟩ := w_store q hL hk hx
theorem w_nameO {m : Str → Option Value} {mu : Led} {x : Str} {pos : Pos} {v : Value} {Q : Value → St → Prop} (hv : m x = some v) (q : Q v ⟨m, mu⟩) (hL : env.locals = c.L := by rfl) (hk : env.scope.kind = .function := by rfl)
    (hx : env.kindOf x = some .local := by rfl) (hd : (x == ("__debug__" : Str)) = false := by decide +kernel) : W c (eval (.Name x pos) env) Q ⟨m, mu⟩ := w_name hv q hL hk hx hd

theorem codeAny_compLoop_any {prog : Program} {w : World} {A : Around} {R : Result → Shared → Prop} {s : Shared} {elt target iter : Expr} {scope : Scope} {pos : Pos} {it acc : Value} {env : Env} (I : Nat → Shared → Prop)
    (turn : ∀ n s, I n s → wpAny (model prog w) A (pyNext it) (fun r s₁ => match r with
      | none => R (.ok .next) s₁
      | some v => wpAny (model prog w) A (letOwnedTupleGo target it v) (fun _ s₁' => wpAny (model prog w) A (assign target env v) (fun _ s₂ => wpAny (model prog w) A (eval elt env) (fun x s₃ =>
          wpAny (model prog w) A (call (.builtin "list.append") [acc, x]) (fun _ s₄ => ∃ m, m < n ∧ I m s₄) (notedBy (model prog w) A env fun e s' => R (.error e) s') s₃)
          (notedBy (model prog w) A env fun e s' => R (.error e) s') s₂) (notedBy (model prog w) A env fun e s' => R (.error e) s') s₁') (notedBy (model prog w) A env fun e s' => R (.error e) s') s₁) (notedBy (model prog w) A env fun e s' => R (.error e) s') s)
    (n : Nat) (h : I n s) : codeAny (model prog w) A (.compLoop (.ListComp elt [⟨target, iter, [], 0⟩] scope pos) 0 it acc env) R s := by
  refine codeAny_loop rfl I (fun n s hI => ?_) n h
  show wpAny _ _ ((compTurn (.ListComp elt [⟨target, iter, [], 0⟩] scope pos) 0 it acc env).onRaise (fun x => do noteFrame x env; theTreesLotGoes x)) _ _ s
  refine wpAny_noted ?_
  rw [compTurn_list1]
  refine wpAny_bind (wpAny_standAt (wpAny_bind (wpAny_mono (turn n s hI) (fun r s₁ h₁ => ?_) fun _ _ h' => h')))
  cases r with
  | none => exact wpAny_pure h₁
  | some v =>
    refine wpAny_bind (wpAny_mono h₁ (fun _ s₁' h₁' => ?_) fun _ _ h' => h')
    exact wpAny_bind (wpAny_mono h₁' (fun _ s₂ h₂ => wpAny_bind (wpAny_bind (wpAny_mono h₂ (fun x s₃ h₃ => wpAny_bind (wpAny_mono h₃
      (fun _ s₄ h₄ => wpAny_pure (wpAny_pure ⟨rfl, h₄⟩)) fun _ _ h' => h')) fun _ _ h' => h'))) fun _ _ h' => h')

/-- one turn of a comprehension -/
noncomputable def CompTurn (c : Cx) (env : Env) (scope : Scope) (cl : List (Str × Addr)) (target elt : Expr) (n : Nat) (P : Nat → Value → Prop) (J : Nat → List Value → Led → Prop) : Prop :=
  ∀ i v ys mu m0 L' g', i < n → P i v → J i ys mu → (∀ a sh, c.g a sh → g' a sh) →
    W (c.sgl (g') (L')) (assign target (compEnvC scope cl L' env) v) (fun _ st₂ => W (c.sgl (g') (L')) (eval elt (compEnvC scope cl L' env)) (fun x st₃ => J (i + 1) (ys ++ [x]) st₃.mu) st₂) ⟨m0, mu⟩

theorem compWalk {I : Addr} {fp : List Addr} {n : Nat} {P : Nat → Value → Prop} {S : Nat → Heap → Prop} {target elt iter : Expr} {scope : Scope} {pos : Pos} {cl : List (Str × Addr)} (it : Itr c I fp n P S) (J : Nat → List Value → Led → Prop) (dr : Drops target I S c)
    (turn : CompTurn c env scope cl target elt n P J) (hlen : ∀ i ys mu, J i ys mu → i ≤ n → ys.length ≤ sizeLine)
    {RR : Value → Addr → Result → Shared → Prop} {E : Value → Shared → Prop} {m : Str → Option Value} {mu : Led}
    (fin : ∀ D C ys mu' h' tk oC mC, J n ys mu' → Rel c ⟨m, (C, .obj oC) :: (D, .lst ys) :: mu'⟩ h' → h'.Ns C mC → RR (.ref D) C (.ok .next) { c.s with heap := h', toks := tk + 1 })
    {tk : Nat} {oI : Obj} (R : Rel c ⟨m, (I, .obj oI) :: mu⟩ h) (hS : S 0 h) (hJ : J 0 [] mu) (hcell : ∀ y ∈ scope.names, y.2 ≠ .cell) (hkind : scope.kind = .function) :
    wpAny (model c.prog c.w) c.A (PySem.newList []) (fun acc s₃ => wpAny (model c.prog c.w) c.A (newFunctionEnv scope env.globals cl [] env.qual none .none (some env)) (fun cenv s₄ =>
      codeAny (model c.prog c.w) c.A (.compStart (.ListComp elt [⟨target, iter, [], 0⟩] scope pos) 0 (.ref I) acc { cenv with scope := relabel scope env }) (RR acc cenv.locals) s₄) E s₃) E { c.s with heap := h, toks := tk + 1 } := by
  refine wpAny_newObj_type ?_
  have R1 := R.alloc (o := { cls := .type "list", data := .seq ([] : List Value).toArray }) (sh := .lst []) ⟨_, rfl⟩ rfl
  have hS1 : S 0 (h.push { cls := .type "list", data := .seq ([] : List Value).toArray }) := it.stay _ _ _ hS R1.fz fun o e => Heap.get?_push_of_some _ e
  show wpAny _ _ _ _ _ { c.s with heap := h.push _, toks := tk + 1 }
  generalize hD : h.objs.size = D at R1 ⊢
  generalize h.push { cls := .type "list", data := .seq ([] : List Value).toArray } = h1 at R1 hS1 ⊢
  refine wpAny_newFunctionEnv hcell (by intro y hy; simp at hy) (fun h2 hns2 hsb2 => ?_) hkind
  obtain ⟨oL, _, _, eL, _⟩ := id R1.ns
  have old : ∀ b o, h1.get? b = some o → h2.get? b = some o := fun b o e => hsb2.extBut b o (Nat.ne_of_lt (Heap.lt_size e)) (Heap.get?_push_of_some _ e)
  have R1' : Rel c ⟨m, ((D, .lst []) :: (I, .obj oI) :: mu) ++ []⟩ h1 := by rw [List.append_nil]; exact R1
  have R0 := R1'.forCall eL
  have RC : Rel ⟨c.prog, c.w, c.O, c.A, ext c.g ((c.L, .obj oL) :: []), h1.objs.size, c.s⟩ ⟨fun _ => none, (D, .lst []) :: (I, .obj oI) :: mu⟩ h2 := R0.enter hns2 old
  have hS2 : S 0 h2 := it.stay _ _ _ hS1 (fun a sh k => (R1.fz a sh k).keeps fun o e => old _ o e) fun o e => old _ o e
  generalize hC : h1.objs.size = C at RC ⊢
  show codeAny _ _ (.compStart _ 0 (.ref I) (.ref D) (compEnvC scope cl C env)) _ { c.s with heap := h2, toks := tk + 1 }
  have loop : codeAny (model c.prog c.w) c.A (.compLoop (.ListComp elt [⟨target, iter, [], 0⟩] scope pos) 0 (.ref I) (.ref D) (compEnvC scope cl C env)) (RR (.ref D) C) { c.s with heap := h2, toks := tk + 1 } := by
    refine codeAny_compLoop_any (fun k s' => ∃ i h tk m0 ys mu oI, s' = { c.s with heap := h, toks := tk + 1 } ∧ i ≤ n ∧ k = n - i ∧ Rel ⟨c.prog, c.w, c.O, c.A, ext c.g ((c.L, .obj oL) :: []), C, c.s⟩ ⟨m0, (D, .lst ys) :: (I, .obj oI) :: mu⟩ h ∧ S i h ∧ J i ys mu)
      ?_ (n - 0) ⟨0, h2, tk, _, [], mu, oI, rfl, Nat.zero_le _, rfl, RC, hS2, hJ⟩
    rintro k _ ⟨i, h, tk, m0, ys, mu, oI, rfl, hi, rfl, R, hS, hJ⟩
    by_cases hlt : i < n
    · refine wpAny_with_toks (n := 1) (Nat.succ_pos _) (it.wk.item i _ _ _ hlt hS fun v h' tk' hP hS' hk htk => ?_)
      obtain ⟨tk', rfl⟩ : ∃ j, tk' = j + 1 := ⟨tk' - 1, by have : 1 ≤ tk' := htk; omega⟩
      obtain ⟨oI', eI'⟩ := it.ex _ _ hS'
      have R' : Rel ⟨c.prog, c.w, c.O, c.A, ext c.g ((c.L, .obj oL) :: []), C, c.s⟩ ⟨m0, (D, .lst ys) :: (I, .obj oI') :: mu⟩ h' := R.turn (Up.tail Up.head) ⟨oI', eI', rfl⟩ fun b o hb e => hk b o (by simpa using hb) e
      refine dr _ _ _ _ _ hS' ?_
      have R2 : Rel ⟨c.prog, c.w, c.O, c.A, ext (ext c.g ((c.L, .obj oL) :: [])) [(D, .lst ys), (I, .obj oI')], C, c.s⟩ ⟨m0, mu⟩ h' := Rel.freeze (fr := [(D, .lst ys), (I, .obj oI')]) R'
      refine (turn i v ys mu m0 C _ hlt hP hJ (fun a sh k => .inl (.inl k))).conv (c := ⟨c.prog, c.w, c.O, c.A, ext (ext c.g ((c.L, .obj oL) :: [])) [(D, .lst ys), (I, .obj oI')], C, c.s⟩) R2 fun _ st₂ h₂ tk₂ R₂ q₂ => ?_
      refine W.conv (c := ⟨c.prog, c.w, c.O, c.A, ext (ext c.g ((c.L, .obj oL) :: [])) [(D, .lst ys), (I, .obj oI')], C, c.s⟩) q₂ R₂ fun x st₃ h₃ tk₃ R₃ q₃ => ?_
      have R4 : Rel ⟨c.prog, c.w, c.O, c.A, ext c.g ((c.L, .obj oL) :: []), C, c.s⟩ ⟨st₃.m, (D, .lst ys) :: (I, .obj oI') :: st₃.mu⟩ h₃ := Rel.thaw (fr := [(D, .lst ys), (I, .obj oI')]) R' R₃
      refine (w_append (c := ⟨c.prog, c.w, c.O, c.A, ext c.g ((c.L, .obj oL) :: []), C, c.s⟩) (m := st₃.m) (mu := (D, .lst ys) :: (I, .obj oI') :: st₃.mu) (x := x) (Q := fun _ st => st = ⟨st₃.m, (D, .lst (ys ++ [x])) :: (I, .obj oI') :: st₃.mu⟩) Up.head (hlen i ys mu hJ hi) rfl).conv R4 fun _ st₄ h₄ tk₄ R₅ q₄ => ?_
      subst q₄
      have e4 : h₄.get? I = some oI' := by
        obtain ⟨o, e, q⟩ := R₅.led _ (.tail _ (.head _))
        have q' : o = oI' := q
        exact q' ▸ e
      have S4 : S (i + 1) h₄ := it.stay _ _ _ hS' (fun a sh k => R₅.fz a sh (.inl k)) fun o e => by rw [eI'] at e; cases e; exact e4
      exact ⟨n - (i + 1), by omega, i + 1, h₄, tk₄, _, ys ++ [x], st₃.mu, oI', rfl, hlt, rfl, R₅, S4, q₃⟩
    · have hin : i = n := Nat.le_antisymm hi (Nat.not_lt.mp hlt)
      subst hin
      refine wpAny_with_toks (n := 1) (Nat.succ_pos _) (it.wk.done _ _ _ hS fun h' tk' hk htk => ?_)
      obtain ⟨tk', rfl⟩ : ∃ j, tk' = j + 1 := ⟨tk' - 1, by have : 1 ≤ tk' := htk; omega⟩
      have Rp : Rel ⟨c.prog, c.w, c.O, c.A, ext c.g ((c.L, .obj oL) :: []), C, c.s⟩ ⟨m0, (I, .obj oI) :: (D, .lst ys) :: mu⟩ h := R.perm (List.Perm.swap ..)
      have R5 := Rp.dropHead (h' := h') fun b o hb e => hk b o (by simpa using hb) e
      have R6 := Rel.leave (O := c.O) (g := ext c.g ((c.L, .obj oL) :: [])) R5 rfl rfl
      have R7 : Rel c ⟨m, (D, .lst ys) :: mu⟩ h' := by
        have := R1'.fromCall eL R6
        rw [List.append_nil] at this
        exact this
      obtain ⟨oC, _, _, eC, _⟩ := id R5.ns
      refine fin D C ys mu h' tk' oC m0 hJ (R7.addObj eC (fun sh k => R5.Lg sh (.inl k)) (fun e => R5.Lg (.obj oL) (.inr (by show (C, _) ∈ _; rw [e]; exact .head _))) fun p hp => R5.Lmu p hp) R5.ns
  exact codeAny_compStart_list loop (it.wk.self 0 _ _ _ hS2 loop)

/-- what a comprehension needs of its source, a part fr of the ledger being only read -/
noncomputable def CompOf (c : Cx) (env : Env) (scope : Scope) (cl : List (Str × Addr)) (target elt : Expr) (fin : Cx → Led → (Str → Option Value) → Addr → List Value → Led → Prop) (v : Value) (st : St) : Prop :=
  ∃ fr m mu n P J, st = ⟨m, fr ++ mu⟩ ∧ Src (c.sg (ext c.g fr)) v target n P ∧ J 0 [] mu ∧ CompTurn (c.sg (ext c.g fr)) env scope cl target elt n P J ∧
    (∀ i ys mu, J i ys mu → i ≤ n → ys.length ≤ sizeLine) ∧ ∀ D ys mu', J n ys mu' → fin (c.sg (ext c.g fr)) fr m D ys mu'
theorem w_comp {iter target elt : Expr} {scope : Scope} {pos : Pos} {cl : List (Str × Addr)} {Q : Value → St → Prop}
    (hw : W c (eval iter env) (CompOf c env scope cl target elt fun _ fr m D ys mu => Q (.ref D) ⟨m, fr ++ (D, .lst ys) :: mu⟩) st)
    (hclos : closureFor scope env = pure cl := by rfl) (hcell : ∀ y ∈ scope.names, y.2 ≠ .cell := by decide) (hkind : scope.kind = .function := by rfl)
    (hnames : ∀ y ∈ scope.names, y.2 = .local → scope.names.lookup y.1 = some .local := by decide +kernel)
    (hs : ∀ x, foldedSetIterable iter env x = pure x := by intro _; rfl) : W c (eval (.ListComp elt [⟨target, iter, [], 0⟩] scope pos) env) Q st := by
  intro h tk R
  rw [eval_ListComp]
  refine wpAny_comprehension_free (use := none) rfl hs hclos hkind hnames (hw.conv R fun v st₁ h₁ tk₁ R₁ q => ?_)
  obtain ⟨fr, m, mu, n, P, J, rfl, src, hJ, turn, hlen, fin⟩ := q
  refine src m mu h₁ tk₁ _ _ R₁.freeze fun I oI h' tk' fp S it dr hS R2 => ?_
  refine compWalk (c := (c.sg (ext c.g fr))) (RR := fun acc C => compPost (model c.prog c.w) c.A No none (Post c Q) acc C) it J dr turn hlen (fun D C ys mu' h' tk oC mC hJ' R' hn => ⟨mC, hn, fun h'' hs'' => ?_⟩) R2 hS hJ hcell hkind
  exact .mk (Rel.thaw R₁ (R'.dropHead fun b o hb e => hs''.extBut b o hb e)) (fin D ys mu' hJ')

/-- an assigned comprehension: the name is bound before the comprehension's own frame goes -/
theorem w_assignComp {iter target elt : Expr} {scope : Scope} {pos spos py : Pos} {y : Str} {cl : List (Str × Addr)} {Q : Flow → St → Prop}
    (hw : W c (eval iter env) (CompOf c env scope cl target elt fun c' fr m D ys mu => ∀ g', (∀ a sh, c'.g a sh → g' a sh) → W (c.sg (g')) (assign (.Name y py) env (.ref D)) (fun _ st' => Q .next ⟨st'.m, fr ++ st'.mu⟩) ⟨m, (D, .lst ys) :: mu⟩) st)
    (hsw : swapsWith (.ListComp elt [⟨target, iter, [], 0⟩] scope pos) (some (.Name y py)) spos.line env = pure true := by rfl)
    (hclos : closureFor scope env = pure cl := by rfl) (hcell : ∀ y ∈ scope.names, y.2 ≠ .cell := by decide) (hkind : scope.kind = .function := by rfl)
    (hnames : ∀ y ∈ scope.names, y.2 = .local → scope.names.lookup y.1 = some .local := by decide +kernel)
    (hs : ∀ x, foldedSetIterable iter env x = pure x := by intro _; rfl) : W c (exec (.Assign [.Name y py] (.ListComp elt [⟨target, iter, [], 0⟩] scope pos) spos) env) Q st := by
  intro h tk R
  rw [exec_Assign_Name_used _ _ _ _ hsw]
  refine wpAny_bind (wpAny_standAt (wpAny_bind ?_))
  show wpAny _ _ (do let _ ← comprehension (.ListComp elt [⟨target, iter, [], 0⟩] scope pos) scope env _ (PySem.newList []) false (eval iter env) (some (assign (.Name y py) env))) _ _ _
  refine wpAny_bind (wpAny_mono (wpAny_comprehension_free (use := some (assign (.Name y py) env)) (Q := fun _ s' => Post c Q .next s') (E := No) rfl hs hclos hkind hnames (hw.conv R fun v st₁ h₁ tk₁ R₁ q => ?_)) (fun _ s' hq => wpAny_pure (wpAny_pure hq)) fun _ _ e => e)
  obtain ⟨fr, m, mu, n, P, J, rfl, src, hJ, turn, hlen, fin⟩ := q
  refine src m mu h₁ tk₁ _ _ R₁.freeze fun I oI h' tk' fp S it dr hS R2 => ?_
  refine compWalk (c := (c.sg (ext c.g fr))) (RR := fun acc C => compPost (model c.prog c.w) c.A No (some (assign (.Name y py) env)) (fun _ s' => Post c Q .next s') acc C) it J dr turn hlen (fun D C ys mu' h' tk oC mC hJ' R' hn => ?_) R2 hS hJ hcell hkind
  show wpAny _ _ (assign (.Name y py) env (.ref D)) _ _ _
  have R3 : Rel (c.sg (ext (ext c.g fr) [(C, .obj oC)])) ⟨m, (D, .lst ys) :: mu'⟩ h' := Rel.freeze (c := (c.sg (ext c.g fr))) (fr := [(C, .obj oC)]) R'
  refine (fin D ys mu' hJ' (ext (ext c.g fr) [(C, .obj oC)]) fun a sh k => .inl k).conv (c := (c.sg (ext (ext c.g fr) [(C, .obj oC)]))) R3 fun _ st₂ h₂ tk₂ R₄ q₂ => ?_
  have R5 : Rel (c.sg (ext c.g fr)) ⟨st₂.m, (C, .obj oC) :: st₂.mu⟩ h₂ := Rel.thaw (c := (c.sg (ext c.g fr))) (fr := [(C, .obj oC)]) R' R₄
  refine ⟨mC, hn.at' fun o e => ?_, fun h'' hs'' => ?_⟩
  · obtain ⟨o₁, e₁, q₁⟩ := R'.led _ (.head _)
    have q₁' : o₁ = oC := q₁
    obtain ⟨o₂, e₂, q₂'⟩ := R5.led _ (.head _)
    have q₂'' : o₂ = oC := q₂'
    have e₁' : h'.get? C = some o₁ := e₁
    rw [e₁'] at e
    cases e
    rw [q₁', ← q₂'']
    exact e₂
  · exact .mk (Rel.thaw R₁ (R5.dropHead fun b o hb e => hs''.extBut b o hb e)) q₂
end
end Mine
end -- L8

section -- L9
open PySem PySem.W PySem.Calls PyProof.Rows PySem.Builtin

namespace Mine
section
variable {c : Cx} {st : St} {env : Env} {K : Frag} {mg mb : Str → Option Value}

/-! dicts whose keys are texts -/
theorem Sh.dct_of {prog : Program} {w : World} {h : Heap} {a : Addr} {kvs : List (Str × Value)} (x : At prog w h a (.dct kvs)) : h.DictOf (PySem.strKind prog w) a kvs ∧ (a == sysModules) = false := by
  obtain ⟨o, e, hs, hx, es, ep, hd, hk, hp, hn⟩ := x
  exact ⟨⟨o, es, ep, e, hx, hd, hk, hp, hn⟩, hs⟩
theorem Sh.dct_mk {prog : Program} {w : World} {h : Heap} {a : Addr} {kvs : List (Str × Value)} (x : h.DictOf (PySem.strKind prog w) a kvs) (hs : (a == sysModules) = false) : At prog w h a (.dct kvs) := by
  obtain ⟨o, es, ep, e, hx, hd, hk, hp, hn⟩ := x
  exact ⟨o, e, hs, hx, es, ep, hd, hk, hp, hn⟩
theorem Rel.mods {h : Heap} (G : Gnd K c.O mg mb) (R : Rel c st h) : (h.objs.size == sysModules) = false := by
  obtain ⟨o, _, _, e, _⟩ := G.g
  have h1 : (3 : Nat) < c.O.objs.size := Heap.lt_size e
  have h2 : (3 : Nat) < h.objs.size := Nat.lt_trans (Nat.lt_of_lt_of_le h1 R.above) R.L_lt
  have : ¬ h.objs.size = 1 := by omega
  show (h.objs.size == 1) = false
  simpa using this

theorem w_inDct {a : Addr} {kvs : List (Str × Value)} {x : Str} {t : Tok} {Q : Value → St → Prop} (k : kn c st a (.dct kvs)) (q : Q (.bool (valueAt kvs x).isSome) st) : W c (compareOp .In (.str x t) (.ref a)) Q st := fun _ _ R =>
  let ⟨d, hs⟩ := Sh.dct_of (R.know k)
  wpAny_in_of (PySem.strKind_is _ _ _ _) hs d.mapOf (.mk R q)
theorem w_notInDct {a : Addr} {kvs : List (Str × Value)} {x : Str} {t : Tok} {Q : Value → St → Prop} (k : kn c st a (.dct kvs)) (q : Q (.bool (!(valueAt kvs x).isSome)) st) : W c (compareOp .NotIn (.str x t) (.ref a)) Q st := fun _ _ R =>
  let ⟨d, hs⟩ := Sh.dct_of (R.know k)
  wpAny_notIn_of (PySem.strKind_is _ _ _ _) hs d.mapOf (.mk R q)
theorem w_itemDct {value slice : Expr} {a : Addr} {kvs : List (Str × Value)} {x : Str} {t : Tok} {v : Value} {Q : Value → St → Prop} (k : kn c st a (.dct kvs)) (hv : valueAt kvs x = some v) (q : Q v st)
    (hs : subscripted slice false (.ref a) (.str x t) = PySem.operate [.ref a, .str x t] (getItem (.ref a) (.str x t)) := by with_unfolding_all rfl) : W c (subscriptTail value slice (.ref a) (.str x t)) Q st := fun _ _ R =>
  let ⟨d, _⟩ := Sh.dct_of (R.know k)
  PyProof.Rows.tail_any d.typeIs slot_dict_getitem.lookup (wpAny_getItem_of (PySem.strKind_is _ _ _ _) d.mapOf hv (.mk R q)) hs
theorem w_setDct {m : Str → Option Value} {mu : Led} {a : Addr} {kvs : List (Str × Value)} {x : Str} {t : Tok} {v : Value} {mu' : Led} {Q : Unit → St → Prop} (u : Up a (.dct kvs) (.dct (stored kvs x v)) mu mu') (hz : kvs.length ≤ 1000) (q : Q () ⟨m, mu'⟩) : W c (setItem (.ref a) (.str x t) v) Q ⟨m, mu⟩ := fun _ _ R => by
  obtain ⟨d, hs⟩ := Sh.dct_of (R.led _ u.mem)
  exact wpAny_setItem_pairs (PySem.strKind_is _ _ _ _) d (fun h' d' sb => .mk (R.turn u (Sh.dct_mk d' hs) fun b _ hb e => sb.extBut b _ hb e) q) (by rw [sizeLine_eq]; omega)
theorem w_popDct {m : Str → Option Value} {mu : Led} {a : Addr} {kvs : List (Str × Value)} {x : Str} {t : Tok} {v : Value} {rest : List Value} {mu' : Led} {Q : Value → St → Prop} (u : Up a (.dct kvs) (.dct (without kvs x)) mu mu') (hr : rest = [] ∨ ∃ d, rest = [d]) (hv : valueAt kvs x = some v) (hz : kvs.length ≤ 1000) (q : Q v ⟨m, mu'⟩) :
    W c (call (.builtin "dict.pop") (.ref a :: .str x t :: rest)) Q ⟨m, mu⟩ := fun _ _ R => by
  obtain ⟨d, hs⟩ := Sh.dct_of (R.led _ u.mem)
  have ha : argsOk "dict.pop" ⟨.ref a :: .str x t :: rest, []⟩ := by
    rcases hr with rfl | ⟨_, rfl⟩
    · exact PySem.F.args_dict_pop_2 _ _
    · exact PySem.F.args_dict_pop_3 _ _ _
  exact call_meetsIn PySem.F.slot_dict_pop d.typeIs PySem.F.entry_dict_pop ha (meets_dict_pop_there (PySem.strKind c.prog c.w) a (PySem.strKind_is _ _ _ _) rest hr rfl)
    ⟨kvs, v, d, by rw [sizeLine_eq]; omega, hv, fun h' d' sb => .mk (R.turn u (Sh.dct_mk d' hs) fun b _ hb e => sb.extBut b _ hb e) q⟩
theorem w_popDctD {a : Addr} {kvs : List (Str × Value)} {x : Str} {t : Tok} {dflt : Value} {Q : Value → St → Prop} (k : kn c st a (.dct kvs)) (hv : valueAt kvs x = none) (q : Q dflt st) :
    W c (call (.builtin "dict.pop") [.ref a, .str x t, dflt]) Q st := fun _ _ R => by
  obtain ⟨d, hs⟩ := Sh.dct_of (R.know k)
  exact call_meetsIn PySem.F.slot_dict_pop d.typeIs PySem.F.entry_dict_pop (PySem.F.args_dict_pop_3 _ _ _) (meets_dict_pop_default (PySem.strKind c.prog c.w) a (PySem.strKind_is _ _ _ _) hs rfl dflt) ⟨kvs, d, hv, .mk R q⟩
theorem w_getDct1 {a : Addr} {kvs : List (Str × Value)} {x : Str} {t : Tok} {Q : Value → St → Prop} (k : kn c st a (.dct kvs)) (q : Q ((valueAt kvs x).getD .none) st) : W c (call (.builtin "dict.get") [.ref a, .str x t]) Q st := fun _ _ R => by
  obtain ⟨d, hs⟩ := Sh.dct_of (R.know k)
  exact call_meetsIn PySem.F.slot_dict_get d.typeIs PySem.F.entry_dict_get (PySem.F.args_dict_get_2 _ _) (meets_dict_get (PySem.strKind c.prog c.w) a (PySem.strKind_is _ _ _ _) hs) ⟨_, d.mapOf, .mk R q⟩
theorem w_getDct2 {a : Addr} {kvs : List (Str × Value)} {x : Str} {t : Tok} {dflt : Value} {Q : Value → St → Prop} (k : kn c st a (.dct kvs)) (q : Q ((valueAt kvs x).getD dflt) st) : W c (call (.builtin "dict.get") [.ref a, .str x t, dflt]) Q st := fun _ _ R => by
  obtain ⟨d, hs⟩ := Sh.dct_of (R.know k)
  exact call_meetsIn PySem.F.slot_dict_get d.typeIs PySem.F.entry_dict_get (PySem.F.args_dict_get_3 _ _ _) (meets_dict_get_default (PySem.strKind c.prog c.w) a (PySem.strKind_is _ _ _ _) hs dflt) ⟨_, d.mapOf, .mk R q⟩
theorem w_updateDct {m : Str → Option Value} {mu : Led} {a b : Addr} {kvs more : List (Str × Value)} {mu' : Led} {Q : Value → St → Prop} (u : Up a (.dct kvs) (.dct (merged kvs more)) mu mu') (k : kn c ⟨m, mu⟩ b (.dct more)) (hne : a ≠ b) (hz : kvs.length + more.length ≤ 1000) (q : Q .none ⟨m, mu'⟩) :
    W c (call (.builtin "dict.update") [.ref a, .ref b]) Q ⟨m, mu⟩ := fun _ _ R => by
  obtain ⟨d, hs⟩ := Sh.dct_of (R.led _ u.mem)
  obtain ⟨d2, hs2⟩ := Sh.dct_of (R.know k)
  exact call_meetsIn PySem.F.slot_dict_update d.typeIs PySem.F.entry_dict_update (PySem.F.args_dict_update_2 _ _) (meets_dict_update (PySem.strKind c.prog c.w) a b hne hs2)
    ⟨kvs, more, d, d2, by rw [sizeLine_eq]; omega, fun h' d' _ sb => .mk (R.turn u (Sh.dct_mk d' hs) fun b _ hb e => sb.extBut b _ hb e) q⟩
theorem w_dctOf {m : Str → Option Value} {mu : Led} {a : Addr} {kvs : List (Str × Value)} {Q : Value → St → Prop} (G : Gnd K c.O mg mb) (k : kn c ⟨m, mu⟩ a (.dct kvs)) (hz : kvs.length ≤ 1000) (q : ∀ b, Q (.ref b) ⟨m, (b, .dct kvs) :: mu⟩) : W c (call (.type "dict") [.ref a]) Q ⟨m, mu⟩ := fun h tk R => by
  obtain ⟨d, hs⟩ := Sh.dct_of (R.know k)
  refine kt_call_dict hs d (by rw [sizeLine_eq]; omega) fun h' d' sb => ?_
  have R1 := R.alloc (o := { cls := .type "dict", data := .dict #[] }) (sh := .obj _) rfl rfl
  exact .mk (R1.turn Up.head (Sh.dct_mk d' (R.mods G)) fun b _ hb e => sb.extBut b _ hb e) (q _)
theorem w_dictNil {m : Str → Option Value} {mu : Led} {pos : Pos} {Q : Value → St → Prop} (G : Gnd K c.O mg mb) (q : ∀ b, Q (.ref b) ⟨m, (b, .dct []) :: mu⟩) : W c (eval (.Dict [] [] pos) env) Q ⟨m, mu⟩ := fun h tk R => by
  refine wpAny_Dict_empty (.mk (R.alloc (sh := .dct []) ?_ rfl) (q _))
  exact ⟨R.mods G, ⟨rfl, rfl, rfl⟩, #[], 0, rfl, fun _ he => by simp at he, Pairs.nil, List.nodup_nil⟩
/-- a display: keys and values, one after the other -/
noncomputable def Shown : List (Value × Value) → List (Str × Value) → Prop
  | [], [] => True
  | (key, v) :: vs, (k, v') :: kvs => SV k key ∧ v = v' ∧ Shown vs kvs
  | _, _ => False
theorem Shown.carries {prog : Program} {w : World} : ∀ {vs : List (Value × Value)} {kvs : List (Str × Value)}, Shown vs kvs → Carries (PySem.strKind prog w) vs kvs
  | [], [], _ => trivial
  | (_, _) :: _, (_, _) :: _, ⟨⟨_, e⟩, e', r⟩ => ⟨by rw [e]; exact PySem.strKind_is _ _ _ _, e', r.carries⟩
  | [], _ :: _, h => h.elim
  | (_, _) :: _, [], h => h.elim
theorem w_dict {m : Str → Option Value} {mu : Led} {keys : List (Option Expr)} {values : List Expr} {pos : Pos} {Q : Value → St → Prop} (G : Gnd K c.O mg mb)
    (hw : ∀ D, W c (evalPairs (pairTrees keys values env pos)) (fun vs st₁ => ∃ kvs mu₁, Shown vs kvs ∧ st₁.mu = (D, .dct []) :: mu₁ ∧ Q (.ref D) ⟨st₁.m, (D, .dct (merged [] kvs)) :: mu₁⟩) ⟨m, (D, .dct []) :: mu⟩)
    (h1 : (keys.all fun x => x.isSome) = true := by rfl) (h2 : keys.length = values.length := by rfl) (h3 : keys.isEmpty = false := by rfl) (h4 : keys.length ≤ 15 := by decide) : W c (eval (.Dict keys values pos) env) Q ⟨m, mu⟩ := fun h tk R => by
  refine wpAny_Dict_walk (knd := PySem.strKind c.prog c.w) h1 h2 (by intro e; rw [e] at h3; cases h3) h4 ?_
  have R1 := R.alloc (o := { cls := .type "dict", data := .dict #[] }) (sh := .dct []) ⟨R.mods G, ⟨rfl, rfl, rfl⟩, #[], 0, rfl, fun _ he => by simp at he, Pairs.nil, List.nodup_nil⟩ rfl
  refine (hw _).conv R1 fun vs st' h' tk' R' ⟨kvs, mu₁, hc, e, q⟩ => ?_
  obtain ⟨m', mu'⟩ := st'
  dsimp only at e q
  subst e
  obtain ⟨d, hs⟩ := Sh.dct_of (R'.led _ (.head _))
  refine ⟨kvs, hc.carries, d, fun h'' d' sb => ?_⟩
  exact Post.mk (R'.turn Up.head (Sh.dct_mk d' hs) fun b _ hb e => sb.extBut b _ hb e) q
theorem w_pairCons {k v : Expr} {ks : List (Option Expr)} {vs : List Expr} {pos : Pos} {Q : List (Value × Value) → St → Prop}
    (hw : W c (eval k env) (fun kv st₁ => W c (eval v env) (fun vv st₂ => W c (evalPairs (pairTrees ks vs env pos)) (fun r st₃ => Q ((kv, vv) :: r) st₃) st₂) st₁) st) : W c (evalPairs (pairTrees (some k :: ks) (v :: vs) env pos)) Q st :=
  fun _ _ R => pairTrees_cons_walk (hw.conv R fun _ _ _ _ R₁ q₁ => q₁.conv R₁ fun _ _ _ _ R₂ q₂ => q₂.conv R₂ fun _ _ _ _ R₃ q₃ => .mk R₃ q₃)
theorem w_pairNil {pos : Pos} {Q : List (Value × Value) → St → Prop} (q : Q [] st) : W c (evalPairs (pairTrees [] [] env pos)) Q st := fun _ _ R => pairTrees_nil_walk (.mk R q)

/-! targets -/
theorem w_aioE {e : Expr} {es : List Expr} {x : Value} {xs : List Value} {Q : Unit → St → Prop} (hw : W c (PySem.assign e env x) (fun _ st₁ => W c (assignInOrder ((assignEach es env).map (·.2)) xs) Q st₁) st)
    (he : assignEach (e :: es) env = (false, PySem.assign e env) :: assignEach es env := by rfl) : W c (assignInOrder ((assignEach (e :: es) env).map (·.2)) (x :: xs)) Q st := by
  rw [he]
  exact w_aioCons hw
theorem w_aioZ {Q : Unit → St → Prop} (q : Q () st) : W c (assignInOrder ((assignEach [] env).map (·.2)) []) Q st := w_aioNil q

/-! texts -/
theorem w_spl2 {x y : Str} {k k' : Tok} {p p' pos : Pos} {Q : List Value → St → Prop} (q : ∀ t u, t ≠ 0 → u ≠ 0 → t ≠ u → Q [.str x t, .str y u] st) :
    W c (spliced (backTo pos (starEach [.Constant (.str x) k p, .Constant (.str y) k' p'] env))) Q st := fun h tk R => by
  refine spliced_more (wpAny_Constant_str ?_) (by rfl)
  refine spliced_more (wpAny_Constant_str ?_) (by rfl)
  refine spliced_none ?_
  exact Post.mk R (q (tk + 1) (tk + 1 + 1) (Nat.succ_ne_zero _) (Nat.succ_ne_zero _) (Nat.ne_of_lt (Nat.lt_succ_self _)))
theorem w_replace {x y z : Str} {t u v : Tok} {Q : Value → St → Prop} (hu : u ≠ 0) (hv : v ≠ 0) (huv : u ≠ v) (hne : (y == z) = false) (hz : x.length + (x.length + 1) * z.length ≤ 16777216) (q : ∀ t', Q (.str (Txt.replace x y z) t') st) :
    W c (call (.builtin "str.replace") [.str x t, .str y u, .str z v]) Q st := fun _ _ R => SC.replace hu hv huv hne hz fun t' k => .mk R (q t')
theorem w_join {x : Str} {t : Tok} {D : Addr} {l : List (Str × Tok)} {Q : Value → St → Prop} (k : kn c st D (.lst (strValues l))) (hj : JoinOk x (l.map (·.1)) = true) (q : ∀ t', Q (.str (Txt.join x (l.map (·.1))) t') st) :
    W c (call (.builtin "str.join") [.str x t, .ref D]) Q st := fun _ _ R => SC.join (Sh.lst_is (R.know k)) rfl hj fun t' k => .mk R (q t')
theorem m_str_replace {x : Str} {t : Tok} {pl : Sem Bool} {Q : Value × List Value → St → Prop} (q : Q (.builtin "str.replace", [.str x t]) st) : W c (getMethod (.str x t) "replace" pl) Q st := by
  with_reducible exact w_methStr PySem.F.slot_str_replace PySem.F.type_str_replace q
theorem m_str_join {x : Str} {t : Tok} {pl : Sem Bool} {Q : Value × List Value → St → Prop} (q : Q (.builtin "str.join", [.str x t]) st) : W c (getMethod (.str x t) "join" pl) Q st := by
  with_reducible exact w_methStr PySem.F.slot_str_join PySem.F.type_str_join q
theorem m_str_split {x : Str} {t : Tok} {pl : Sem Bool} {Q : Value × List Value → St → Prop} (q : Q (.builtin "str.split", [.str x t]) st) : W c (getMethod (.str x t) "split" pl) Q st := by
  with_reducible exact w_methStr PySem.F.slot_str_split PySem.F.type_str_split q
theorem m_dict_get {a : Addr} {kvs : List (Str × Value)} {pl : Sem Bool} {Q : Value × List Value → St → Prop} (k : kn c st a (.dct kvs)) (q : Q (.builtin "dict.get", [.ref a]) st) : W c (getMethod (.ref a) "get" pl) Q st := by
  with_reducible exact w_methDct k PySem.F.slot_dict_get PySem.F.type_dict_get q
theorem m_dict_pop {a : Addr} {kvs : List (Str × Value)} {pl : Sem Bool} {Q : Value × List Value → St → Prop} (k : kn c st a (.dct kvs)) (q : Q (.builtin "dict.pop", [.ref a]) st) : W c (getMethod (.ref a) "pop" pl) Q st := by
  with_reducible exact w_methDct k PySem.F.slot_dict_pop PySem.F.type_dict_pop q
theorem m_dict_update {a : Addr} {kvs : List (Str × Value)} {pl : Sem Bool} {Q : Value × List Value → St → Prop} (k : kn c st a (.dct kvs)) (q : Q (.builtin "dict.update", [.ref a]) st) : W c (getMethod (.ref a) "update" pl) Q st := by
  with_reducible exact w_methDct k PySem.F.slot_dict_update PySem.F.type_dict_update q
theorem m_list_append {a : Addr} {kvs : List Value} {pl : Sem Bool} {Q : Value × List Value → St → Prop} (k : kn c st a (.lst kvs)) (q : Q (.builtin "list.append", [.ref a]) st) : W c (getMethod (.ref a) "append" pl) Q st := by
  with_reducible exact w_methLst k PySem.slot_list_append PySem.F.type_list_append q
theorem m_list_pop {a : Addr} {kvs : List Value} {pl : Sem Bool} {Q : Value × List Value → St → Prop} (k : kn c st a (.lst kvs)) (q : Q (.builtin "list.pop", [.ref a]) st) : W c (getMethod (.ref a) "pop" pl) Q st := by
  with_reducible exact w_methLst k PySem.F.slot_list_pop PySem.F.type_list_pop q
end
end Mine
end -- L9

section -- L10
open PySem PySem.W PySem.Calls PyProof.Rows PySem.Builtin

namespace Mine
section
variable {c : Cx} {st : St} {env : Env} {K : Frag} {mg mb : Str → Option Value}

/-! a list whose places are set -/
theorem Sh.seq_is {prog : Program} {w : World} {h : Heap} {a : Addr} {vs : List Value} (x : At prog w h a (.seq vs)) : h.IsList a vs.toArray := x
theorem w_weaken {α : Type} {m : Str → Option Value} {mu mu' : Led} {a : Addr} {vs : List Value} {t : Sem α} {Q : α → St → Prop} (u : Up a (.lst vs) (.seq vs) mu mu') (hw : W c t Q ⟨m, mu'⟩) : W c t Q ⟨m, mu⟩ :=
  fun h tk R => hw h tk (R.turn u (Sh.lst_is (R.led _ u.mem)) fun _ _ _ e => e)
theorem w_itemSeq {value slice : Expr} {a : Addr} {vs : List Value} {i : Int} {t : Tok} {v : Value} {Q : Value → St → Prop} (k : kn c st a (.seq vs)) (h0 : 0 ≤ i) (hv : vs[i.toNat]? = some v) (hz : vs.length ≤ sizeLine) (q : Q v st)
    (hs : subscripted slice false (.ref a) (.int i t) = PySem.operate [.ref a, .int i t] (getItem (.ref a) (.int i t)) := by with_unfolding_all rfl) : W c (subscriptTail value slice (.ref a) (.int i t)) Q st := by
  intro h tk R
  have hl := Sh.seq_is (R.know k)
  have hlt : i.toNat < vs.length := (List.getElem?_eq_some_iff.mp hv).1
  exact PyProof.Rows.tail_any hl.typeIs slot_list_getitem.lookup (wpAny_getItem_list hl h0 (by rw [sizeLine_eq] at hz; omega) (by simpa using hv) (.mk R q)) hs
theorem w_setSeq {m : Str → Option Value} {mu mu' : Led} {a : Addr} {vs : List Value} {i : Int} {t : Tok} {v : Value} {Q : Unit → St → Prop} (u : Up a (.seq vs) (.seq (vs.set i.toNat v)) mu mu') (h0 : 0 ≤ i) (hi : i < vs.length) (hz : vs.length ≤ sizeLine) (q : Q () ⟨m, mu'⟩) :
    W c (setItem (.ref a) (.int i t) v) Q ⟨m, mu⟩ := by
  intro h tk R
  have hl := Sh.seq_is (R.led _ u.mem)
  refine wpAny_setItem_list hl h0 (by rw [sizeLine_eq] at hz; omega) (by simpa using hi) fun h' hl' sb => ?_
  refine .mk (R.turn u ?_ fun b _ hb e => sb.extBut b _ hb e) q
  have : (vs.toArray.setIfInBounds i.toNat v) = (vs.set i.toNat v).toArray := by simp
  rw [this] at hl'
  exact hl'
theorem w_max {x y : Int} {t u : Tok} {Q : Value → St → Prop} (hh : c.A.handled = none) (q : ∀ t, Q (.int (max x y) t) st) : W c (call (.builtin "max") [.int x t, .int y u]) Q st := by
  intro h tk R
  refine wpAny_with_toks (n := 1) (Nat.succ_pos _) (max_two_ints hh fun h' tk' hk htk => ?_)
  have R' := R.grows hk
  by_cases hc : y > x
  · rw [if_pos hc]
    have := q u
    rw [show max x y = y by omega] at this
    exact .mk R' this
  · rw [if_neg hc]
    have := q t
    rw [show max x y = x by omega] at this
    exact .mk R' this
theorem w_range1 {m : Str → Option Value} {mu : Led} {n : Nat} {t : Tok} {Q : Value → St → Prop} (q : ∀ r t u v, Q (.ref r) ⟨m, (r, .obj (rangeObj n t u v)) :: mu⟩) : W c (call (.type "range") [.int n t]) Q ⟨m, mu⟩ := fun h tk R =>
  call_range_1 (.mk (R.alloc (sh := .obj _) rfl rfl) (q _ _ _ _))
end
end Mine
namespace Mine
theorem sub_int {i : Int} {k : Tok} {p : Pos} {a : Addr} {v : Value} : subscripted (.Constant (.int i) k p) false (.ref a) v = PySem.operate [.ref a, v] (getItem (.ref a) v) := by with_unfolding_all rfl
theorem sub_name {x : Str} {p : Pos} {a : Addr} {v : Value} : subscripted (.Name x p) false (.ref a) v = PySem.operate [.ref a, v] (getItem (.ref a) v) := by with_unfolding_all rfl
theorem sub_call {f : Expr} {as : List Expr} {kws} {p : Pos} {a : Addr} {v : Value} : subscripted (.Call f as kws p) false (.ref a) v = PySem.operate [.ref a, v] (getItem (.ref a) v) := by with_unfolding_all rfl
theorem sub_unop {op} {e : Expr} {p : Pos} {a : Addr} {v : Value} : subscripted (.UnaryOp op e p) false (.ref a) v = PySem.operate [.ref a, v] (getItem (.ref a) v) := by with_unfolding_all rfl
end Mine
end -- L10

section -- L11
open PySem PySem.W PySem.Calls PyProof.Rows PySem.Builtin PySem.SeqAt

namespace Mine
section
variable {c : Cx} {st : St} {env : Env} {K : Frag} {mg mb : Str → Option Value}

/-- is the list other than the empty list -/
theorem w_neNil {a b : Addr} {vs : List Value} {Q : Value → St → Prop} {n : Nat} (hA : Amb c.A n) (k : kn c st a (.lst vs) ∨ kn c st a (.seq vs)) (kb : kn c st b (.lst [])) (q : Q (.bool (!vs.isEmpty)) st) : W c (compareOp .NotEq (.ref a) (.ref b)) Q st := by
  intro h tk R
  have hl : h.IsList a vs.toArray := k.elim (fun k => Sh.lst_is (R.know k)) fun k => Sh.seq_is (R.know k)
  have hb := Sh.lst_is (R.know kb)
  have hu : c.A.units < cLine := by have := hA.units; show c.A.units < 9900; omega
  cases vs with
  | nil => exact RcNeAt.lists (s := { c.s with heap := h, toks := tk + 1 }) (e := fun _ => true) hl hb rfl hu (fun j h1 => absurd h1 (by simp)) c.prog c.w No _ (.mk R q)
  | cons v vs => exact RcNeAt.lists_lengths (s := { c.s with heap := h, toks := tk + 1 }) hl hb (by simp) hu c.prog c.w No _ (.mk R q)

theorem w_neStrs {a b : Addr} {xs ys : List (Str × Tok)} {Q : Value → St → Prop} {n : Nat} (hA : Amb c.A n) (k : kn c st a (.lst (strValues xs))) (kb : kn c st b (.lst (strValues ys))) (hlen : xs.length = ys.length) (he : xs.map (·.1) = ys.map (·.1)) (q : Q (.bool false) st) :
    W c (compareOp .NotEq (.ref a) (.ref b)) Q st := by
  intro h tk R
  have hu : c.A.units < cLine := by have := hA.units; show c.A.units < 9900; omega
  suffices hs : RcNeAt c.A { c.s with heap := h, toks := tk + 1 } (.ref a) (.ref b) false from hs c.prog c.w No _ (.mk R q)
  have := RcNeAt.lists (A := c.A) (s := { c.s with heap := h, toks := tk + 1 }) (e := fun _ => true) (Sh.lst_is (R.know k)) (Sh.lst_is (R.know kb)) (by simpa [strValues] using hlen) hu (fun j h1 h2 => by
    have h1' : j < xs.length := by simpa [strValues] using h1
    have h2' : j < ys.length := by simpa [strValues] using h2
    have e1 : (strValues xs).toArray[j] = Value.str xs[j].1 xs[j].2 := by simp [strValues]
    have e2 : (strValues ys).toArray[j] = Value.str ys[j].1 ys[j].2 := by simp [strValues]
    rw [e1, e2]
    have e3 : xs[j].1 = ys[j].1 := by
      have := congrArg (fun l => l[j]?) he
      simpa [h1', h2'] using this
    have := EqAt.str_str (A := c.A.in1) (s := { c.s with heap := h, toks := tk + 1 }) xs[j].1 xs[j].2 ys[j].1 ys[j].2
    rw [e3] at this ⊢
    simpa using this)
  have e0 : (List.range (strValues xs).toArray.size).all (fun _ => true) = true := List.all_eq_true.mpr fun _ _ => rfl
  rw [e0] at this
  exact this

theorem w_eqPair {a b : Addr} {x1 x2 y1 y2 : Str} {t1 t2 u1 u2 : Tok} {Q : Value → St → Prop} {n : Nat} (hA : Amb c.A n) (k : kn c st a (.tup [.str x1 t1, .str x2 t2])) (kb : kn c st b (.tup [.str y1 u1, .str y2 u2])) (q : Q (.bool (x1 == y1 && x2 == y2)) st) :
    W c (compareOp .Eq (.ref a) (.ref b)) Q st := by
  intro h tk R
  have hu : c.A.units < cLine := by have := hA.units; show c.A.units < 9900; omega
  suffices hs : RcAt c.A { c.s with heap := h, toks := tk + 1 } (.ref a) (.ref b) (x1 == y1 && x2 == y2) from hs c.prog c.w No _ (.mk R q)
  have := RcAt.tuples (A := c.A) (s := { c.s with heap := h, toks := tk + 1 }) (e := fun j => if j = 0 then x1 == y1 else x2 == y2) (Sh.tup_is (R.know k)) (Sh.tup_is (R.know kb)) hu (fun j h1 _ => by
    have h1' : j < 2 := h1
    match j, h1' with
    | 0, _ => exact EqAt.str_str _ _ _ _
    | 1, _ => exact EqAt.str_str _ _ _ _)
  simpa [List.range, List.range.loop] using this
theorem any_strs (x : Str) : ∀ ys : List (Str × Tok), (strValues ys).any (fun v => match v with | .str y _ => y == x | _ => false) = (ys.map (·.1)).contains x
  | [] => rfl
  | p :: r => by
    show ((p.1 == x) || (strValues r).any _) = ((x == p.1) || (r.map (·.1)).contains x)
    rw [any_strs x r, BEq.comm]
theorem w_notInPar {a : Addr} {x : Str} {t : Tok} {ys : List (Str × Tok)} {Q : Value → St → Prop} (k : kn c st a (.tup (strValues ys))) (q : Q (.bool (!(ys.map (·.1)).contains x)) st) : W c (compareOp .NotIn (.str x t) (.ref a)) Q st := by
  intro h tk R
  refine notIn_tupleAt (s := { c.s with heap := h, toks := tk + 1 }) (fun v => match v with | .str y _ => y == x | _ => false) (Sh.tup_is (R.know k)) (fun y hy => ?_) (.mk R ?_)
  · have hy' : y ∈ strValues ys := by simpa using hy
    obtain ⟨p, _, rfl⟩ := List.mem_map.mp hy'
    exact EqAt.str_str _ _ _ _
  · rw [List.any_toArray, any_strs]
    exact q

/-! tuple[:2] -/
theorem adjust_to2 : Builtin.Slice.sliceAdjust none (some 2) 1 3 = (0, 2) := by decide
theorem places_to2 : Builtin.Slice.slicePlaces 0 2 1 = 2 := by decide
theorem sliceApplied_to2 {prog : Program} {w : World} {A : Around} {E : Value → Shared → Prop} {s : Shared} {sl : Addr} {u : Tok} {Q : Int × Int × Nat → Shared → Prop} (hs : s.heap.IsSliceOf sl .none (.int 2 u) .none) (h : Q (0, 1, 2) s) :
    wpAny (model prog w) A (Builtin.Slice.sliceApplied (.ref sl) (pure 3)) Q E s := by
  obtain ⟨os, hos, hcs, hds⟩ := id hs
  unfold Builtin.Slice.sliceApplied Builtin.Slice.sliceFields
  refine wpAny_bind (wpAny_bind (wpAny_field hos hds (x := .none) rfl (wpAny_bind (wpAny_field hos hds (x := .int 2 u) rfl (wpAny_bind (wpAny_field hos hds (x := .none) rfl (wpAny_pure ?_)))))))
  refine wpAny_bind (slicePart_none ?_)
  show wpAny _ _ (if ((1 : Int) == 0) = true then _ else _) _ _ s
  rw [if_neg (by decide)]
  refine wpAny_bind (slicePart_none (wpAny_bind (slicePart_int (wpAny_bind (wpAny_pure ?_)))))
  show wpAny _ _ (match Builtin.Slice.sliceAdjust none (some 2) 1 3 with | (lo, hi) => pure (lo, (1 : Int), Builtin.Slice.slicePlaces lo hi 1)) _ _ s
  rw [adjust_to2]
  show wpAny _ _ (pure ((0 : Int), (1 : Int), Builtin.Slice.slicePlaces 0 2 1)) _ _ s
  rw [places_to2]
  exact wpAny_pure h
theorem w_tupTo2 {m : Str → Option Value} {mu : Led} {value slice : Expr} {a b : Addr} {x y z : Value} {u : Tok} {ops : List Value} {Q : Value → St → Prop} (k : kn c ⟨m, mu⟩ a (.tup [x, y, z])) (kb : kn c ⟨m, mu⟩ b (.obj (sliceObj .none (.int 2 u) .none)))
    (q : ∀ d, Q (.ref d) ⟨m, (d, .tup [x, y]) :: mu⟩) (hs : subscripted slice false (.ref a) (.ref b) = PySem.operate ops (getItem (.ref a) (.ref b)) := by with_unfolding_all rfl) : W c (subscriptTail value slice (.ref a) (.ref b)) Q ⟨m, mu⟩ := by
  intro h tk R
  have ht := Sh.tup_is (R.know k)
  obtain ⟨o, e, rfl⟩ := R.know kb
  have hsl : h.IsSliceOf b .none (.int 2 u) .none := ⟨_, e, rfl, rfl⟩
  have hTs : ({ c.s with heap := h, toks := tk + 1 } : Shared).TypeIs (.ref b) "slice" := ⟨_, e, rfl⟩
  refine PyProof.Rows.tail_any ht.typeIs slot_tuple_getitem.lookup ?_ hs
  unfold getItem
  try with_reducible refine wpAny_holding ?_
  first | refine wpAny_bind (wpAny_pure ?_) | skip
  refine wpAny_bind (wpAny_sequenceKey ht.typeIs (by decide) ?_)
  refine wpAny_bind (wpAny_callSpecial?_slot (name := Str.ofString "__getitem__") ht.typeIs slot_tuple_getitem
    (wpAny_call_entry slot_tuple_getitem ht.typeIs entry_tuple_getitem ?_ (args_tuple_getitem _ _)))
  show wpAny _ _ (Builtin.Tuple.tupleItemsOf (.ref a) >>= _) _ _ _
  refine wpAny_bind (tupleItemsOf_ ht ?_)
  refine wpAny_bind (wpAny_typeOf hTs ?_)
  rw [if_pos (by decide)]
  refine wpAny_bind (sliceApplied_to2 hsl ?_)
  show wpAny _ _ (if (((0 : Int) == 0) && (1 : Int) == 1 && (2 == 3)) = true then _ else _) _ _ _
  rw [if_neg (by decide)]
  have hdrop : sizeOk (.seq ([x, y] : List Value).toArray) := by
    show (2 : Nat) ≤ sizeLine
    rw [sizeLine_eq]; decide
  have fin := fun (q' : Q (.ref h.objs.size) _) => Post.mk (R.alloc (o := { cls := .type "tuple", data := .seq ([x, y] : List Value).toArray }) (sh := .tup [x, y]) ⟨_, rfl⟩ rfl) q' (tk := tk + 1)
  first
    | exact wpAny_bind (m := Builtin.Tuple.tupleExact _) (wpAny_newObj_type (wpAny_pure ⟨_, rfl, wpAny_pure (fin (q _))⟩) hdrop)
    | exact wpAny_bind (m := Builtin.Tuple.tupleExact _) (wpAny_newObj_type (wpAny_bind (wpAny_pure (wpAny_pure ⟨_, rfl, wpAny_pure (fin (q _))⟩))) hdrop)
    | exact wpAny_bind (wpAny_bind (m := Builtin.Tuple.tupleExact _) (wpAny_newObj_type (wpAny_pure (wpAny_pure ⟨_, rfl, wpAny_pure (fin (q _))⟩)) hdrop))
    | exact wpAny_bind (wpAny_bind (m := Builtin.Tuple.tupleExact _) (wpAny_newObj_type (wpAny_pure ⟨_, rfl, wpAny_pure (fin (q _))⟩) hdrop))
end
end Mine
namespace Mine
section
variable {c : Cx} {st : St} {env : Env}
theorem w_swap2 {x y : Str} {a b : Value} {Q : Unit → St → Prop} (hw : W c (PySem.bindName env y b) (fun _ s1 => W c (PySem.bindName env x a) Q s1) st) :
    W c (assignInOrder (List.map (fun n => PySem.bindName env n) [x, y].reverse) [a, b].reverse) Q st :=
  w_aioCons (hw.mono fun _ _ h1 => w_aioCons (h1.mono fun _ _ h2 => w_aioNil h2))
theorem w_swap3 {x y z : Str} {a b d : Value} {Q : Unit → St → Prop} (hw : W c (PySem.bindName env z d) (fun _ s0 => W c (PySem.bindName env y b) (fun _ s1 => W c (PySem.bindName env x a) Q s1) s0) st) :
    W c (assignInOrder (List.map (fun n => PySem.bindName env n) [x, y, z].reverse) [a, b, d].reverse) Q st :=
  w_aioCons (hw.mono fun _ _ h0 => w_aioCons (h0.mono fun _ _ h1 => w_aioCons (h1.mono fun _ _ h2 => w_aioNil h2)))
theorem Up.appR {a : Addr} {sh sh' : Sh} {r r' : Led} (u : Up a sh sh' r r') : ∀ mu : Led, Up a sh sh' (mu ++ r) (mu ++ r')
  | [] => u
  | _ :: mu => .tail (u.appR mu)
theorem Up.appL {a : Addr} {sh sh' : Sh} {r r' : Led} (u : Up a sh sh' r r') (q : Led) : Up a sh sh' (r ++ q) (r' ++ q) := by
  induction u with
  | head => exact .head
  | tail _ ih => exact .tail ih
end
end Mine
namespace Mine
section
variable {c : Cx} {st : St} {env : Env} {K : Frag} {mg mb : Str → Option Value}
theorem w_cwF0 {pos : Pos} {f : Value} {e : Expr} {rest : List Expr} {Q : Value → St → Prop} (G : Gnd K c.O mg mb) (hk : keepIn K f = true)
    (hw : W c (spliced (backTo pos (starEach (e :: rest) env))) (fun vs st₁ => W c (call f vs) Q st₁) st)
    (he : starEach (e :: rest) env = (false, eval e env) :: starEach rest env := by rfl) (hp : (backTo pos (starEach rest env)).any (·.1) = false := by rfl) : W c (callWith pos f [] (backTo pos (starEach (e :: rest) env)) []) Q st := w_cwFn G hk hw he hp
theorem w_cwF1 {pos : Pos} {f x : Value} {e : Expr} {rest : List Expr} {Q : Value → St → Prop} (G : Gnd K c.O mg mb) (hk : keepIn K f = true)
    (hw : W c (spliced (backTo pos (starEach (e :: rest) env))) (fun vs st₁ => W c (call f (x :: vs)) Q st₁) st)
    (he : starEach (e :: rest) env = (false, eval e env) :: starEach rest env := by rfl) (hp : (backTo pos (starEach rest env)).any (·.1) = false := by rfl) : W c (callWith pos f [x] (backTo pos (starEach (e :: rest) env)) []) Q st := w_cwFn G hk hw he hp
theorem w_cwFn00 {pos : Pos} {f : Value} {Q : Value → St → Prop} (G : Gnd K c.O mg mb) (hk : keepIn K f = true) (hw : W c (call f []) Q st) : W c (callWith pos f [] (backTo pos (starEach [] env)) []) Q st := w_cwFn0 G hk hw
theorem w_cwFn01 {pos : Pos} {f x : Value} {Q : Value → St → Prop} (G : Gnd K c.O mg mb) (hk : keepIn K f = true) (hw : W c (call f [x]) Q st) : W c (callWith pos f [x] (backTo pos (starEach [] env)) []) Q st := w_cwFn0 G hk hw
theorem w_cwB1 {pos : Pos} {id : String} {e : Expr} {rest : List Expr} {Q : Value → St → Prop}
    (hw : W c (spliced (backTo pos (starEach (e :: rest) env))) (fun vs st₁ => W c (call (.builtin id) vs) Q st₁) st)
    (he : starEach (e :: rest) env = (false, eval e env) :: starEach rest env := by rfl) (hp : (backTo pos (starEach (e :: rest) env)).any (·.1) = false := by rfl) : W c (callWith pos (.builtin id) [] (backTo pos (starEach (e :: rest) env)) []) Q st := w_cwB hw he hp
theorem w_cwM1 {pos : Pos} {id : String} {x : Value} {e : Expr} {rest : List Expr} {Q : Value → St → Prop}
    (hw : W c (spliced (backTo pos (starEach (e :: rest) env))) (fun vs st₁ => W c (call (.builtin id) (x :: vs)) Q st₁) st)
    (he : starEach (e :: rest) env = (false, eval e env) :: starEach rest env := by rfl) (hp : (backTo pos (starEach (e :: rest) env)).any (·.1) = false := by rfl) : W c (callWith pos (.builtin id) [x] (backTo pos (starEach (e :: rest) env)) []) Q st := w_cwB hw he hp
end
end Mine
theorem Mine.kn_mu {c : Mine.Cx} {m : Str → Option Value} {mu : Mine.Led} {a : Addr} {sh : Mine.Sh} (h : (a, sh) ∈ mu) : Mine.kn c ⟨m, mu⟩ a sh := Or.inr h
theorem Mine.kn_g {c : Mine.Cx} {st : Mine.St} {a : Addr} {sh : Mine.Sh} (h : c.g a sh) : Mine.kn c st a sh := Or.inl h
theorem Mine.w_drop {α : Type} {c : Mine.Cx} {m : Str → Option Value} {mu : Mine.Led} {t : Sem α} {Q : α → Mine.St → Prop} (mu' : Mine.Led) (hs : mu'.Sublist mu) (hw : Mine.W c t Q ⟨m, mu'⟩) : Mine.W c t Q ⟨m, mu⟩ := Mine.w_sub mu' hs hw
theorem Mine.w_turn {α : Type} {c : Mine.Cx} {m : Str → Option Value} {mu : Mine.Led} {t : Sem α} {Q : α → Mine.St → Prop} (mu' : Mine.Led) (hs : mu.Perm mu') (hw : Mine.W c t Q ⟨m, mu'⟩) : Mine.W c t Q ⟨m, mu⟩ := Mine.w_perm mu' hs hw
namespace Mine
theorem Calls.fnC {prog : Program} {w : World} {O : Heap} {A : Around} {g : Kn} {mu : Led} {Q : Value → Led → Prop} {f : Addr} {args : List Value} {n : Nat} {K : Frag} {mg mb : Str → Option Value}
    {oc : Value} {od : Option Addr} {osl : Array (Option Value)} {name qual : Str} {params : Arguments} {body : List Stmt} {scope : Scope} {dV kV doc pm cdv ct : Value} {an : Option Addr} (binds : List (Str × Value)) (m0 : Str → Option Value) (cls : Addr → Led)
    (G : Gnd K O mg mb) (hA : Amb A (n + 1))
    (ho : K.lookup f = some ⟨oc, od, .func (fnOf name qual params body scope dV kV doc pm an cdv ct), osl⟩) (hcd : codeIn K cdv qual = true)
    (hbind : ∀ s : Shared, (∀ a o, O.get? a = some o → s.heap.get? a = some o) → BindsTo s (fnOf name qual params body scope dV kV doc pm an cdv ct) ⟨args, []⟩ binds)
    (hkind : (binds.all fun y => scope.names.lookup y.1 == some .local || scope.names.lookup y.1 == some .cell) = true)
    (hnd : ((cellsFrom 0 scope.names []).map (·.1)).Nodup)
    (hm : bindL (fun x => scope.names.lookup x) binds (fun _ => none) = m0) (hc : ∀ L, cellLed (bindC (fun x => scope.names.lookup x) binds fun _ => none) (cellsFrom (L + 1) scope.names []) = cls L)
    (hw : ∀ L s, let env := envOfC qual scope L f cdv; let c : Cx := ⟨prog, w, O, A.deeper env, g, L, s⟩; Amb c.A n → Gnd K c.O mg mb → W c (execs body env) (fun fl st' => Q (flowVal fl) st'.mu) ⟨m0, cls L ++ mu⟩)
    (hco : scope.isCoroutine = false) (hgen : scope.isGenerator = false) (hk : scope.kind = .function) : Calls prog w O A (.ref f) args g mu Q :=
  Calls.defC G.nolimit hA.depth (G.X _ _ ho) (codeRec_of G.X hcd) hbind hkind hnd (fun L s => by rw [hm, hc L]; exact hw L s hA.deeper G) hco hgen hk
end Mine
namespace Mine
theorem guardC {env : Env} {x : Str} {pos : Pos} {c : Cx} {st : St} {Q : Value → St → Prop} (_ : env.kindOf x = some .cell) (h : W c (eval (.Name x pos) env) Q st) : W c (eval (.Name x pos) env) Q st := h
noncomputable def inL (mu : Led) : Kn := fun a sh => (a, sh) ∈ mu
end Mine
namespace Mine
theorem w_in {α : Type} {c : Cx} {m : Str → Option Value} {mu r : Led} {t : Sem α} {Q : α → St → Prop} (fr : Led) (hw : W c t Q ⟨m, mu ++ (fr ++ r)⟩) : W c t Q ⟨m, fr ++ (mu ++ r)⟩ :=
  w_turn _ (by rw [← List.append_assoc, ← List.append_assoc]; exact List.Perm.append_right _ List.perm_append_comm) hw
theorem w_pad {α : Type} {c : Cx} {m : Str → Option Value} {mu : Led} {t : Sem α} {Q : α → St → Prop} (hw : W c t Q ⟨m, mu ++ []⟩) : W c t Q ⟨m, mu⟩ := by
  rw [List.append_nil] at hw; exact hw
end Mine
namespace Mine
theorem w_cwPair {c : Cx} {st : St} {pos : Pos} {f : Value} {first : List Value} {a : List (Bool × Sem Value)} {b} {Q : Value → St → Prop} (h : W c (callWith pos f first a b) Q st) : W c (callWith pos (f, first).1 (f, first).2 a b) Q st := h
end Mine
end -- L11

section -- L12
open PySem PySem.W PySem.Calls PyProof.Rows PySem.Builtin

namespace Mine
/-! dicts of texts -/
noncomputable def DctIs (ps : List (Str × Str)) (kvs : List (Str × Value)) : Prop := Each (fun p kv => kv.1 = p.1 ∧ SV p.2 kv.2) ps kvs
noncomputable def look (ps : List (Str × Str)) (k : Str) : Option Str := (ps.find? fun p => p.1 = k).map (·.2)
noncomputable def put2 (ps : List (Str × Str)) (k u : Str) : List (Str × Str) := if ps.any (fun p => p.1 = k) then ps.map (fun p => if p.1 = k then (p.1, u) else p) else ps ++ [(k, u)]
noncomputable def del2 (ps : List (Str × Str)) (k : Str) : List (Str × Str) := ps.filter fun p => p.1 ≠ k
noncomputable def stepS (ps : List (Str × Str)) (p : Str × Str) : List (Str × Str) := if p.2 = "" then del2 ps p.1 else put2 ps p.1 p.2

theorem DctIs.look : ∀ {ps : List (Str × Str)} {kvs : List (Str × Value)}, DctIs ps kvs → ∀ k, match Mine.look ps k with
    | some u => ∃ v, valueAt kvs k = some v ∧ SV u v
    | none => valueAt kvs k = none
  | [], [], _, k => rfl
  | p :: ps, kv :: kvs, ⟨⟨e, hv⟩, hr⟩, k => by
    have ih := DctIs.look hr k
    unfold Mine.look valueAt at ih ⊢
    by_cases h : p.1 = k
    · have h' : kv.1 = k := e.trans h
      simp only [List.find?_cons, h, h', decide_true, Option.map_some]
      exact ⟨_, rfl, hv⟩
    · have h' : ¬ kv.1 = k := fun e' => h (e.symm.trans e')
      simp only [List.find?_cons, h, h', decide_false]
      exact ih
  | [], _ :: _, h, _ => h.elim
  | _ :: _, [], h, _ => h.elim
theorem DctIs.some {ps : List (Str × Str)} {kvs : List (Str × Value)} {k u : Str} (h : DctIs ps kvs) (e : Mine.look ps k = some u) : ∃ v, valueAt kvs k = some v ∧ SV u v := by
  have := h.look k
  rw [e] at this; exact this
theorem DctIs.none {ps : List (Str × Str)} {kvs : List (Str × Value)} {k : Str} (h : DctIs ps kvs) (e : Mine.look ps k = none) : valueAt kvs k = none := by
  have := h.look k
  rw [e] at this; exact this
theorem DctIs.isSome {ps : List (Str × Str)} {kvs : List (Str × Value)} (h : DctIs ps kvs) (k : Str) : (valueAt kvs k).isSome = (Mine.look ps k).isSome := by
  cases e : Mine.look ps k with
  | none => rw [h.none e]; rfl
  | some u => obtain ⟨v, e', _⟩ := h.some e; rw [e']; rfl
theorem DctIs.any {ps : List (Str × Str)} {kvs : List (Str × Value)} (h : DctIs ps kvs) (k : Str) : (kvs.any fun kv => decide (kv.1 = k)) = ps.any fun p => decide (p.1 = k) := by
  induction ps generalizing kvs with
  | nil => rw [Each.nilv h]; rfl
  | cons p ps ih =>
    obtain ⟨kv, r, rfl, ⟨e, hv⟩, hr⟩ := Each.inv h
    rw [List.any_cons, List.any_cons, ih hr, e]
theorem DctIs.putMap {k u : Str} {v : Value} (hv : SV u v) : ∀ {ps : List (Str × Str)} {kvs : List (Str × Value)}, DctIs ps kvs → DctIs (ps.map fun p => if p.1 = k then (p.1, u) else p) (kvs.map fun kv => if kv.1 = k then (kv.1, v) else kv)
  | [], [], _ => trivial
  | p :: ps, kv :: kvs, ⟨⟨e, hv'⟩, hr⟩ => by
    rw [List.map_cons, List.map_cons]
    refine ⟨?_, DctIs.putMap hv hr⟩
    rw [e]
    split
    · exact ⟨rfl, hv⟩
    · exact ⟨e, hv'⟩
  | [], _ :: _, h => h.elim
  | _ :: _, [], h => h.elim
theorem DctIs.put {ps : List (Str × Str)} {kvs : List (Str × Value)} (h : DctIs ps kvs) {k u : Str} {v : Value} (hv : SV u v) : DctIs (put2 ps k u) (stored kvs k v) := by
  unfold put2 stored
  rw [h.any k]
  split
  · exact DctIs.putMap hv h
  · exact Each.snoc h ⟨rfl, hv⟩
theorem DctIs.del {ps : List (Str × Str)} {kvs : List (Str × Value)} (h : DctIs ps kvs) (k : Str) : DctIs (del2 ps k) (without kvs k) := by
  unfold del2 without
  induction ps generalizing kvs with
  | nil => rw [Each.nilv h]; trivial
  | cons p ps ih =>
    obtain ⟨kv, r, rfl, ⟨e, hv'⟩, hr⟩ := Each.inv h
    rw [List.filter_cons, List.filter_cons, e]
    split
    · exact ⟨⟨e, hv'⟩, ih hr⟩
    · exact ih hr
theorem del2_none {ps : List (Str × Str)} {k : Str} (h : look ps k = none) : del2 ps k = ps := by
  unfold look at h
  unfold del2
  rw [Option.map_eq_none_iff, List.find?_eq_none] at h
  exact List.filter_eq_self.mpr fun p hp => by simpa using h p hp
theorem len_put2 (ps : List (Str × Str)) (k u : Str) : (put2 ps k u).length ≤ ps.length + 1 := by
  unfold put2
  split
  · rw [List.length_map]; omega
  · rw [List.length_append]; exact Nat.le_refl _
theorem len_del2 (ps : List (Str × Str)) (k : Str) : (del2 ps k).length ≤ ps.length := List.length_filter_le _ _
theorem len_stepS (ps : List (Str × Str)) (p : Str × Str) : (stepS ps p).length ≤ ps.length + 1 := by
  unfold stepS
  split
  · have := len_del2 ps p.1; omega
  · exact len_put2 ..
noncomputable def DictV (g : Kn) (ps : List (Str × Str)) (v : Value) : Prop := ∃ a kvs, v = .ref a ∧ g a (.dct kvs) ∧ DctIs ps kvs
theorem DictV.mono {g g' : Kn} (k : ∀ a sh, g a sh → g' a sh) (p : List (Str × Str)) (v : Value) (h : DictV g p v) : DictV g' p v := let ⟨a, t, u, e, h⟩ := h; ⟨a, t, u, k _ _ e, h⟩
end Mine
namespace Mine
section
variable {c : Cx}
theorem w_updateDct2 {m : Str → Option Value} {mu mu' : Led} {a b : Addr} {kvs more : List (Str × Value)} {Q : Value → St → Prop} (u : Up a (.dct kvs) (.dct (merged kvs more)) mu mu') (hz : kvs.length + more.length ≤ 1000) (q : Q .none ⟨m, (b, .dct more) :: mu'⟩) :
    W c (call (.builtin "dict.update") [.ref a, .ref b]) Q ⟨m, (b, .dct more) :: mu⟩ := fun h tk R => by
  have hne : a ≠ b := fun e => by
    have := R.nd
    rw [List.map_cons] at this
    exact (List.nodup_cons.mp this).1 (e ▸ List.mem_map_of_mem (f := (·.1)) u.mem)
  exact w_updateDct (Up.tail u) (.inr (.head _)) hne hz q h tk R
end
end Mine
namespace Mine
theorem strs_of : ∀ {xs : List Str} {vs : List Value}, Each SV xs vs → ∃ l : List (Str × Tok), vs = strValues l ∧ l.map (·.1) = xs
  | [], [], _ => ⟨[], rfl, rfl⟩
  | x :: xs, v :: vs, ⟨⟨t, e⟩, h⟩ => by
    obtain ⟨l, rfl, rfl⟩ := strs_of h
    exact ⟨(x, t) :: l, by rw [e]; rfl, rfl⟩
  | [], _ :: _, h => h.elim
  | _ :: _, [], h => h.elim
theorem w_joinE {c : Cx} {st : St} {x : Str} {t : Tok} {D : Addr} {xs : List Str} {vs : List Value} {Q : Value → St → Prop} (k : kn c st D (.lst vs)) (he : Each SV xs vs) (hj : JoinOk x xs = true) (q : ∀ t', Q (.str (Txt.join x xs) t') st) :
    W c (call (.builtin "str.join") [.str x t, .ref D]) Q st := by
  obtain ⟨l, rfl, rfl⟩ := strs_of he
  exact w_join k hj q
end Mine
end -- L12

section -- L13
open PySem PySem.W PySem.Calls PyProof.Rows PySem.Builtin

namespace Mine
section
variable {c : Cx} {K : Frag} {mg mb : Str → Option Value}
theorem attPut_nil {x : Str} {v : Value} : attPut x v [] = [(x, v)] := rfl
theorem attPut_skip {x k : Str} {v u : Value} {r r' : List (Str × Value)} (h : (k == x) = false) (e : attPut x v r = r') : attPut x v ((k, u) :: r) = (k, u) :: r' := by
  rw [attPut, h, ← e]; rfl
theorem attPut_here {x : Str} {v u : Value} {r : List (Str × Value)} : attPut x v ((x, u) :: r) = (x, v) :: r := by
  rw [attPut]; simp
theorem w_setAttrE {m : Str → Option Value} {mu mu' : Led} {x C d : Addr} {kvs kvs' : List (Str × Value)} {name : Str} {v : Value} {Q : Unit → St → Prop} (G : Gnd K c.O mg mb) (k1 : kn c ⟨m, mu⟩ x (.inst C d)) (u : Up d (.att kvs) (.att kvs') mu mu') (hp : attPut name v kvs = kvs')
    (h1 : findIn K (.ref C) "__setattr__" = some (some (.builtin "object.__setattr__"))) (h2 : plainOver K C = true) (h3 : takerIn K C name = some none) (h4 : hasDictIn K C = true) (hz : kvs.length ≤ 1000) (q : Q () ⟨m, mu'⟩) :
    W c (setAttr (.ref x) name v) Q ⟨m, mu⟩ := by
  subst hp
  exact w_setAttr G k1 u h1 h2 h3 h4 hz q
end

theorem up_flat {a : Addr} {sh sh' : Sh} {V V' : NV} (u : Up a sh sh' (rowLed V) (rowLed V')) : ∀ {vs : List NV} {i : Nat}, vs[i]? = some V → Up a sh sh' (vs.flatMap rowLed) ((vs.set i V').flatMap rowLed)
  | v :: vs, 0, e => by
    simp at e
    subst e
    rw [List.set_cons_zero, List.flatMap_cons, List.flatMap_cons]
    exact u.appL _
  | v :: vs, i + 1, e => by
    simp at e
    rw [List.set_cons_succ, List.flatMap_cons, List.flatMap_cons]
    exact (up_flat u e).appR _
  | [], i, e => by simp at e
theorem map_set_y {V V' : NV} (hy : V'.y = V.y) : ∀ {vs : List NV} {i : Nat}, vs[i]? = some V → (vs.set i V').map (fun v => Value.ref v.y) = vs.map fun v => Value.ref v.y
  | v :: vs, 0, e => by
    simp at e
    subst e
    rw [List.set_cons_zero, List.map_cons, List.map_cons, hy]
  | v :: vs, i + 1, e => by
    simp at e
    rw [List.set_cons_succ, List.map_cons, List.map_cons, map_set_y hy e]
  | [], i, e => by simp at e
theorem up_tree {a : Addr} {sh sh' : Sh} {T : TA} {V V' : NV} {i : Nat} (u : Up a sh sh' (rowLed V) (rowLed V')) (hy : V'.y = V.y) (e : T.vs[i]? = some V) : Up a sh sh' (treeLed T) (treeLed { T with vs := T.vs.set i V' }) := by
  unfold treeLed
  dsimp only
  rw [map_set_y hy e]
  exact .tail (.tail (.tail (up_flat u e)))
theorem Each.set {α β : Type} {R : α → β → Prop} {x : α} {y : β} (r : R x y) : ∀ {xs : List α} {ys : List β} (i : Nat), Each R xs ys → Each R (xs.set i x) (ys.set i y)
  | [], [], _, _ => trivial
  | _ :: _, _ :: _, 0, h => ⟨r, h.2⟩
  | _ :: _, _ :: _, i + 1, h => ⟨h.1, Each.set r i h.2⟩
  | [], _ :: _, _, h => h.elim
  | _ :: _, [], _, h => h.elim
end Mine
namespace Mine
section
variable {c : Cx} {st : St}
theorem w_notInParO {a : Addr} {x : Str} {t : Tok} {ys : List (Str × Tok)} {n : Nat} {Q : Value → St → Prop} (hO : c.O.get? a = some { cls := .type "tuple", data := .seq (strValues ys).toArray n }) (q : Q (.bool (!(ys.map (·.1)).contains x)) st) : W c (compareOp .NotIn (.str x t) (.ref a)) Q st := by
  intro h tk R
  have e := R.ground hO
  refine PySem.SeqAt.notIn_tupleAt (s := { c.s with heap := h, toks := tk + 1 }) (fun v => match v with | .str y _ => y == x | _ => false) ⟨_, e, rfl, n, rfl⟩ (fun y hy => ?_) (.mk R ?_)
  · have hy' : y ∈ strValues ys := by simpa using hy
    obtain ⟨p, _, rfl⟩ := List.mem_map.mp hy'
    exact PySem.SeqAt.EqAt.str_str _ _ _ _
  · rw [List.any_toArray]
    exact (congrArg (fun b => Q (.bool (!b)) st) (any_strs x ys)).mpr q
end
end Mine
end -- L13

section -- L14
open PySem PySem.W PySem.Calls PyProof.Rows PySem.Builtin PySem.Builtin.Str

namespace Mine
section
variable {c : Cx} {st : St}
theorem w_split {m : Str → Option Value} {mu : Led} {x y : Str} {t u : Tok} {Q : Value → St → Prop} (hy : (y.length == 0) = false) (hsz : x.length ≤ sizeLine) (hsz2 : (partsBetween x (occurrences x y 0 x.length (x.length + 1)) y.length).length ≤ sizeLine)
    (q : ∀ D l, l.map (·.1) = Txt.split x y → Q (.ref D) ⟨m, (D, .lst (strValues l)) :: mu⟩) : W c (call (.builtin "str.split") [.str x t, .str y u]) Q ⟨m, mu⟩ := by
  intro h tk R
  cases h1 : (decide (x.length < y.length) || decide (Builtin.Str.strKind x < Builtin.Str.strKind y))
  · cases hf : (occurrences x y 0 x.length (x.length + 1)).isEmpty
    · refine call_meets PySem.F.slot_str_split (typeIs_str _ _ _) PySem.F.entry_str_split (PySem.F.args_str_split_2 _ _) (meets_str_split_sep x y t u h1 hy hf hsz hsz2) ?_
      rw [strsFrom_eq]
      refine Post.mk (R.alloc (sh := .lst (strValues _)) ⟨_, rfl⟩ rfl) (q _ _ ((numbered_texts _ _).trans ((if_neg (ne_true_of_eq_false h1)).trans (if_neg (ne_true_of_eq_false hf))).symm))
    · exact call_meets PySem.F.slot_str_split (typeIs_str _ _ _) PySem.F.entry_str_split (PySem.F.args_str_split_2 _ _) (meets_str_split_not_found x y t u h1 hy hf)
        (Post.mk (R.alloc (sh := .lst (strValues [(x, t)])) ⟨_, rfl⟩ rfl) (q _ _ ((if_neg (ne_true_of_eq_false h1)).trans (if_pos hf)).symm))
  · exact call_meets PySem.F.slot_str_split (typeIs_str _ _ _) PySem.F.entry_str_split (PySem.F.args_str_split_2 _ _) (meets_str_split_cannot_occur x y t u h1)
      (Post.mk (R.alloc (sh := .lst (strValues [(x, t)])) ⟨_, rfl⟩ rfl) (q _ _ (if_pos h1).symm))
theorem w_itemLast {value slice : Expr} {a : Addr} {vs : List Value} {t : Tok} {v : Value} {Q : Value → St → Prop} (k : kn c st a (.lst vs)) (hv : vs.getLast? = some v) (hz : vs.length ≤ sizeLine) (q : Q v st)
    (hs : subscripted slice false (.ref a) (.int (-1) t) = PySem.operate [.ref a, .int (-1) t] (getItem (.ref a) (.int (-1) t))) : W c (subscriptTail value slice (.ref a) (.int (-1) t)) Q st := by
  intro h tk R
  have hl := Sh.lst_is (R.know k)
  have hne : vs.length ≠ 0 := fun e => by rw [List.length_eq_zero_iff.mp e] at hv; cases hv
  refine PyProof.Rows.tail_any hl.typeIs slot_list_getitem.lookup (wpAny_getItem_list_neg hl (by decide) (by rw [List.size_toArray]; omega) (by decide) ?_ (.mk R q)) hs
  rw [List.size_toArray, show ((-1 : Int) + (vs.length : Int)).toNat = vs.length - 1 by omega]
  rw [List.getElem?_toArray, ← List.getLast?_eq_getElem?]
  exact hv
end
end Mine
namespace Mine
theorem sub_slice3 {l u : Option Expr} {k : Expr} {p : Pos} {a : Addr} {v : Value} : subscripted (.Slice l u (some k) p) false (.ref a) v = PySem.operate [.ref a, v] (getItem (.ref a) v) := by with_unfolding_all rfl
theorem sub_slice2 {l u : Option Expr} {p : Pos} {a : Addr} {v : Value} : subscripted (.Slice l u none p) false (.ref a) v = PySem.operate [v, .ref a] (getItem (.ref a) v) := by with_unfolding_all rfl
theorem w_rev {c : Cx} {m : Str → Option Value} {mu : Led} {value : Expr} {l u : Option Expr} {k : Expr} {p : Pos} {a b : Addr} {t : Tok} {vs : List Value} {Q : Value → St → Prop} (k1 : kn c ⟨m, mu⟩ a (.lst vs)) (k2 : kn c ⟨m, mu⟩ b (.obj (sliceObj .none .none (.int (-1) t)))) (hz : vs.length ≤ sizeLine)
    (q : ∀ d, Q (.ref d) ⟨m, (d, .lst vs.reverse) :: mu⟩) : W c (subscriptTail value (.Slice l u (some k) p) (.ref a) (.ref b)) Q ⟨m, mu⟩ := by
  refine w_sliceLst k1 k2 .none .none (.int (-1) t) (by decide) hz (fun d => ?_) sub_slice3
  rw [krv_pick]
  exact q d
end Mine
end -- L14

section -- L15
open PySem PySem.W PySem.Calls PyProof.Rows PySem.Builtin

namespace Mine
theorem each_strs : ∀ {vs : List Value} {ss : List Str}, StrsAre vs ss → Each SV ss vs
  | _, _, .nil => trivial
  | _, _, .cons _ t r => ⟨⟨t, rfl⟩, each_strs r⟩
/-- sorted(d): the keys, rising -/
theorem w_sortedDct {c : Cx} {m : Str → Option Value} {mu : Led} {a : Addr} {kvs : List (Str × Value)} {Q : Value → St → Prop} (hh : c.A.handled = none) (k : kn c ⟨m, mu⟩ a (.dct kvs)) (hz : kvs.length < 64)
    (q : ∀ D vs ss, Each SV ss vs → ss.Perm (kvs.map (·.1)) → sortedS ss = true → Q (.ref D) ⟨m, (D, .lst vs) :: mu⟩) : W c (call (.builtin "sorted") [.ref a]) Q ⟨m, mu⟩ := by
  intro h tk R
  obtain ⟨d, hs⟩ := Sh.dct_of (R.know k)
  obtain ⟨ep, hat⟩ := d.dictAt
  refine call_function_entry kind_sorted plain_sorted entry_sorted (args_sorted1 _) ?_
  unfold Builtin.«sorted»
  refine wpAny_bind (m := checkCount "sorted" 1 1 _) (wpAny_pure ?_)
  refine wpAny_with_toks (n := 1) (Nat.succ_pos _) (wpAny_bind (kdu_collect (A := c.A.in1) (kdl_dict (knd := PySem.strKind c.prog c.w) (kvs := kvs) (ep := ep) hs) hh hat (by rw [sizeLine_eq]; omega) fun h' tk' acc hk hacc => ?_))
  have R' : Rel c ⟨m, mu⟩ h' := R.grows hk
  have hl : acc.toList.length = kvs.length := by rw [Array.length_toList]; exact hacc.1
  refine wpAny_bind (wpAny_newList ?_ (by rw [hl, sizeLine_eq]; omega))
  have hS : StrsAre acc.toList (kvs.map (·.1)) := by
    have key : ∀ (vs : List Value) (ks : List (Str × Value)), vs.length = ks.length → (∀ (j : Nat) (v : Value), vs[j]? = some v → ∃ k x, ks[j]? = some (k, x) ∧ (PySem.strKind c.prog c.w).is k v = true) → StrsAre vs (ks.map (·.1)) := by
      intro vs
      induction vs with
      | nil => intro ks e _; cases ks with
        | nil => exact .nil
        | cons => cases e
      | cons v vs ih =>
        intro ks e hv
        cases ks with
        | nil => cases e
        | cons p ks =>
          obtain ⟨k, x, e1, e2⟩ := hv 0 v rfl
          cases e1
          have e2' : ∃ t, v = .str k t := by
            cases v <;> simp [PySem.strKind, Value.isStrOf] at e2
            exact ⟨_, by rw [e2]⟩
          obtain ⟨t, rfl⟩ := e2'
          exact .cons k t (ih ks (by simpa using e) fun j u hu => hv (j + 1) u hu)
    exact key _ _ hl fun j v e => hacc.2 j v (by rw [← Array.getElem?_toList]; exact e)
  have R1 := R'.alloc (o := { cls := .type "list", data := .seq acc.toList.toArray }) (sh := .lst acc.toList) ⟨_, rfl⟩ rfl
  have hoL : (h'.push { cls := .type "list", data := .seq acc.toList.toArray }).get? h'.objs.size = some (seqObj "list" acc.toList.toArray 0) := Heap.get?_push_size _ rfl
  refine wpAny_bind (wpAny_holding (wpAny_call_entry slot_list_sort ⟨_, hoL, rfl⟩ entry_list_sort (list_sort_treeK strKind_oneLt hoL hS.keysOf (fun v₁ v₂ rest e => keyKind_strs (by rw [← e]; exact hS)) (by rw [hl]; exact hz) fun st' a1 a2 => ⟨_, rfl, ?_⟩) (args_list_sort _)))
  obtain ⟨ss, b1, b2, b3⟩ := sorted_out_str hS a1 a2
  obtain ⟨e, he⟩ := sortedHeap_at (vs := acc.toList) (out := (arrOf st').map (·.2)) hoL
  refine wpAny_pure fun ht => ⟨_, rfl, ?_⟩
  have ht' : 1 ≤ tk' := ht
  obtain ⟨j, rfl⟩ : ∃ j, tk' = j + 1 := ⟨tk' - 1, by omega⟩
  have hat2 : At c.prog c.w (sortedHeap (h'.push { cls := .type "list", data := .seq acc.toList.toArray }) h'.objs.size acc.toList ((arrOf st').map (·.2))) h'.objs.size (.lst ((arrOf st').map (·.2)).toList) := ⟨_, he, e, by rw [Array.toArray_toList]⟩
  exact Post.mk (R1.turn Up.head hat2 fun b o hb eb => (sortedHeap_old hb (Heap.lt_size eb)).trans eb) (q _ _ ss (each_strs b1) b2 b3)
end Mine
namespace Mine
theorem w_neNoneStr {c : Cx} {st : St} {x : Str} {t : Tok} {Q : Value → St → Prop} (q : Q (.bool true) st) : W c (compareOp .NotEq .none (.str x t)) Q st := fun _ _ R => PySem.EqNone.ne_none_str (.mk R q)
end Mine
end -- L15

section -- L16
open PySem PySem.W PySem.Calls PyProof.Rows PySem.Builtin

namespace Mine
/-! a sort as a tree of questions, answered by an order -/
noncomputable def runK {α : Type} (n : Nat) (lt : Nat → Nat → Bool) : KasT α → Option α
  | .ret a => some a
  | .ask i j k => if i < n ∧ j < n ∧ i ≠ j then runK n lt (k (lt i j)) else none
theorem kas_pure {α : Type} {cmp : Nat → Nat → (Bool → Shared → Prop) → Shared → Prop} {n : Nat} {lt : Nat → Nat → Bool} {Q : α → Shared → Prop} {s : Shared}
    (hc : ∀ i j (C : Bool → Shared → Prop), i < n → j < n → i ≠ j → C (lt i j) s → cmp i j C s) : ∀ (t : KasT α) (p : α), runK n lt t = some p → Q p s → t.kasWp cmp Q s
  | .ret a, p, h, q => by
    cases h
    exact q
  | .ask i j k, p, h, q => by
    unfold runK at h
    split at h
    · rename_i hij
      exact hc i j _ hij.1 hij.2.1 hij.2.2 (kas_pure hc _ p h q)
    · cases h
noncomputable def injs : Nat → List (List Nat)
  | 0 => [[]]
  | k + 1 => (injs k).flatMap fun l => ((List.range 5).filter fun x => !l.contains x).map (· :: l)
theorem mem_injs : ∀ {l : List Nat}, l.Nodup → (∀ x ∈ l, x < 5) → l ∈ injs l.length
  | [], _, _ => .head _
  | x :: l, h, h5 => by
    obtain ⟨h1, h2⟩ := List.nodup_cons.mp h
    refine List.mem_flatMap.mpr ⟨l, mem_injs h2 fun y hy => h5 y (.tail _ hy), List.mem_map.mpr ⟨x, List.mem_filter.mpr ⟨List.mem_range.mpr (h5 x (.head _)), ?_⟩, rfl⟩⟩
    simpa using h1
noncomputable def rises : List Nat → Bool
  | [] => true
  | x :: l => l.all (fun y => decide (x < y)) && rises l
noncomputable def sortCheck (l : List Nat) : Bool := match runK l.length (fun i j => decide (l.getD i 0 < l.getD j 0)) (kas_sort l.length) with
  | some p => p.toList.isPerm (List.range l.length) && rises (p.toList.map (l.getD · 0))
  | none => false
theorem sort_all : ((injs 2 ++ injs 3 ++ injs 4 ++ injs 5).all sortCheck) = true := by decide +kernel
theorem rises_pw : ∀ {l : List Nat}, rises l = true → l.Pairwise (· < ·)
  | [], _ => .nil
  | x :: l, h => by
    unfold rises at h
    rw [Bool.and_eq_true, List.all_eq_true] at h
    exact .cons (fun y hy => of_decide_eq_true (h.1 y hy)) (rises_pw h.2)
theorem sort_run {l : List Nat} (h : l.Nodup) (h5 : ∀ x ∈ l, x < 5) (h2 : 2 ≤ l.length) (hn : l.length ≤ 5) :
    ∃ p : Array Nat, runK l.length (fun i j => decide (l.getD i 0 < l.getD j 0)) (kas_sort l.length) = some p ∧ p.toList.Perm (List.range l.length) ∧ (p.toList.map (l.getD · 0)).Pairwise (· < ·) := by
  have hm : l ∈ injs 2 ++ injs 3 ++ injs 4 ++ injs 5 := by
    have := mem_injs h h5
    have hl : l.length = 2 ∨ l.length = 3 ∨ l.length = 4 ∨ l.length = 5 := by omega
    simp only [List.mem_append]
    rcases hl with e | e | e | e <;> rw [e] at this <;> simp [this]
  have hc := List.all_eq_true.mp sort_all l hm
  unfold sortCheck at hc
  split at hc
  · rename_i p hp
    rw [Bool.and_eq_true] at hc
    exact ⟨p, hp, List.isPerm_iff.mp hc.1, rises_pw hc.2⟩
  · cases hc
end Mine
namespace Mine
abbrev R4 := Str × Str × Str × Str
noncomputable def V4 (g : Kn) (r : R4) (v : Value) : Prop := ∃ a t u x y, v = .ref a ∧ g a (.tup [.str r.1 t, .str r.2.1 u, .str r.2.2.1 x, .str r.2.2.2 y])
noncomputable def T4 (h : Heap) (r : R4) (v : Value) : Prop := ∃ a o n t u x y, v = .ref a ∧ h.get? a = some o ∧ o.cls = .type "tuple" ∧ o.data = .seq [.str r.1 t, .str r.2.1 u, .str r.2.2.1 x, .str r.2.2.2 y].toArray n
theorem T4.keeps {h h' : Heap} (k : ∀ b o, h.get? b = some o → h'.get? b = some o) (r : R4) (v : Value) (x : T4 h r v) : T4 h' r v := by
  obtain ⟨a, o, n, t, u, x, y, e, h1, h2, h3⟩ := x
  exact ⟨a, o, n, t, u, x, y, e, k _ _ h1, h2, h3⟩
noncomputable def ltR (a b : R4) : Bool := if a.1 = b.1 then decide (a.2.1.cps.toList < b.2.1.cps.toList) else decide (a.1.cps.toList < b.1.cps.toList)
section
variable {prog : Program} {w : World} {A : Around} {E : Value → Shared → Prop} {s : Shared}
theorem t4_tups {h : Heap} : ∀ {as : List R4} {vs : List Value}, Each (T4 h) as vs → ∃ fs, KatTups h vs fs ∧ fs.length = vs.length ∧ ∀ v ∈ fs, ∃ x t, v = Value.str x t
  | [], [], _ => ⟨[], .nil, rfl, fun _ h => nomatch h⟩
  | r :: as, v :: vs, ⟨⟨a, o, n, t, u, x, y, e, h1, h2, h3⟩, hr⟩ => by
    obtain ⟨fs, k1, k2, k3⟩ := t4_tups hr
    subst e
    refine ⟨.str r.1 t :: fs, KatTups.cons h1 h2 h3 (by simp) k1, by rw [List.length_cons, List.length_cons, k2], fun v hv => ?_⟩
    rcases List.mem_cons.mp hv with rfl | hv
    · exact ⟨_, _, rfl⟩
    · exact k3 v hv
  | [], _ :: _, h => h.elim
  | _ :: _, [], h => h.elim
theorem t4_kind {as : List R4} {vs : List Value} {Q : SortKind → Shared → Prop} (hE : Each (T4 s.heap) as vs) (hn : 0 < vs.length) (h : Q (tuples' true) s) : wpAny (model prog w) A (keyKind' vs.toArray) Q E s := by
  obtain ⟨fs, k1, k2, k3⟩ := t4_tups hE
  exact kat_kind (T := .type "str") k1 (by omega) (fun v hv => by obtain ⟨x, t, rfl⟩ := k3 v hv; exact Looks.of_pure rfl) rfl h
theorem t4_ask {as : List R4} {vs : List Value} (hE : Each (T4 s.heap) as vs) {i j : Nat} {r r' : R4} (hi : as[i]? = some r) (hj : as[j]? = some r') (hne : (r.1, r.2.1) ≠ (r'.1, r'.2.1)) {C : Bool → Shared → Prop} (h : C (ltR r r') s) :
    kas_ask prog w A (tuples' true) vs i j C s := by
  obtain ⟨v, ev, a, o, n, t, u, x, y, rfl, h1, h2, h3⟩ := hE.get hi
  obtain ⟨v', ev', a', o', n', t', u', x', y', rfl, h1', h2', h3'⟩ := hE.get hj
  unfold kas_ask
  rw [List.getD_eq_getElem?_getD, List.getD_eq_getElem?_getD, ev, ev']
  show wpAny _ _ (keyLt' (tuples' true) (.ref a) (.ref a')) _ _ _
  refine kat_lt h1 h3 h1' h3' ?_
  refine kat_cons (wpAny_eqBool_str ?_)
  unfold ltR at h
  by_cases e : r.1 = r'.1
  · rw [if_pos e] at h
    rw [decide_eq_true e]
    refine kat_yes (kat_cons (wpAny_eqBool_str ?_))
    have e2 : ¬ r.2.1 = r'.2.1 := fun e2 => hne (by rw [e, e2])
    rw [decide_eq_false e2]
    refine kat_no ?_
    refine kat_one _ _ ?_
    exact PyProof.Rows.lt_str h
  · rw [if_neg e] at h
    rw [decide_eq_false e]
    refine kat_no ?_
    exact oneLt_str h
end
end Mine
namespace Mine
theorem Each.monoM {α β : Type} {R S : α → β → Prop} : ∀ {xs : List α} {ys : List β}, (∀ x y, y ∈ ys → R x y → S x y) → Each R xs ys → Each S xs ys
  | [], [], _, _ => trivial
  | _ :: _, _ :: _, k, h => ⟨k _ _ (.head _) h.1, Each.monoM (fun x y hy => k x y (.tail _ hy)) h.2⟩
  | [], _ :: _, _, h => h.elim
  | _ :: _, [], _, h => h.elim
theorem each_self {α β : Type} {R : α → β → Prop} : ∀ {xs : List α} {ys : List β}, Each R xs ys → Each (fun x y => ∃ i : Nat, xs[i]? = some x ∧ ys[i]? = some y) xs ys
  | [], [], _ => trivial
  | _ :: _, _ :: _, h => ⟨⟨0, rfl, rfl⟩, (each_self h.2).mono fun x y ⟨i, h1, h2⟩ => ⟨i + 1, h1, h2⟩⟩
  | [], _ :: _, h => h.elim
  | _ :: _, [], h => h.elim
theorem each_map {α β γ : Type} {R : α → β → Prop} {f : γ → α} {g : γ → β} : ∀ {l : List γ}, (∀ x ∈ l, R (f x) (g x)) → Each R (l.map f) (l.map g)
  | [], _ => trivial
  | x :: l, h => ⟨h x (.head _), each_map fun y hy => h y (.tail _ hy)⟩
theorem map_range_getD {α : Type} (d : α) : ∀ (l : List α), (List.range l.length).map (fun i => l.getD i d) = l := by
  intro l
  refine List.ext_getElem (by simp) fun i h1 h2 => ?_
  rw [List.getElem_map, List.getElem_range, List.getD_eq_getElem?_getD, List.getElem?_eq_getElem h2]
  rfl
section
variable {prog : Program} {w : World} {A : Around} {E : Value → Shared → Prop} {s : Shared}
theorem list_sortR {as : List R4} {vs : List Value} {a : Addr} {n : Nat} {P : PySem.Fin → Shared → Prop} (ho : s.heap.get? a = some (seqObj "list" vs.toArray n)) (hE : Each (T4 s.heap) as vs) (hna : ∀ v ∈ vs, v ≠ .ref a) (h64 : vs.length ≤ 5)
    {rk : R4 → Nat} (h5 : ∀ r ∈ as, rk r < 5) (hnd : (as.map rk).Nodup) (hlt : ∀ r ∈ as, ∀ r' ∈ as, rk r ≠ rk r' → (r.1, r.2.1) ≠ (r'.1, r'.2.1) ∧ ltR r r' = decide (rk r < rk r'))
    (h : ∀ (out : List R4) (ovs : List Value), out.Perm as → Each (fun r v => ∃ i : Nat, as[i]? = some r ∧ vs[i]? = some v) out ovs → (out.map rk).Pairwise (· < ·) → P (.done (.ret .none)) { s with heap := sortedHeap s.heap a vs ovs.toArray }) :
    wpAny (model prog w) A (Builtin.«list.sort» ⟨[.ref a], []⟩) P E s := by
  have hlen := hE.len
  rw [list_sort_plain]
  have ha : a < s.heap.objs.size := Heap.lt_size ho
  refine wpAny_bind (listItems_at ho rfl ?_)
  refine wpAny_bind (listUpdate_at ho rfl ?_ (by rw [List.size_toArray, sizeLine_eq]; omega) (Nat.zero_le _))
  obtain ⟨e1, ho1⟩ : ∃ e1, (s.heap.update a (Obj.mapSeq fun _ => #[])).get? a = some (seqObj "list" #[] e1) := ⟨_, get?_update_seq ho (fun _ => #[])⟩
  refine wpAny_bind (seqEpoch_at ho1 rfl ?_)
  refine wpAny_bind (wpAny_newTuple ?_ (by show vs.length ≤ _; rw [sizeLine_eq]; omega))
  refine wpAny_bind (wpAny_newList ?_ (Nat.zero_le _))
  refine wpAny_holding ?_
  have ho6 : (((s.heap.update a (Obj.mapSeq fun _ => #[])).push (seqObj "tuple" vs.toArray 0)).push (seqObj "list" #[] 0)).get? a = some (seqObj "list" #[] e1) :=
    Heap.get?_push_of_some _ (Heap.get?_push_of_some _ ho1)
  show wpAny (model prog w) A _ P E { s with heap := ((s.heap.update a (Obj.mapSeq fun _ => #[])).push (seqObj "tuple" vs.toArray 0)).push (seqObj "list" #[] 0) }
  dsimp only
  have keep : ∀ b o, b ≠ a → s.heap.get? b = some o → (((s.heap.update a (Obj.mapSeq fun _ => #[])).push (seqObj "tuple" vs.toArray 0)).push (seqObj "list" #[] 0)).get? b = some o := fun b o hb e => by
    refine Heap.get?_push_of_some _ (Heap.get?_push_of_some _ ?_)
    rw [Heap.get?_update_ne _ _ _ _ hb]
    exact e
  have hE3 : Each (T4 (((s.heap.update a (Obj.mapSeq fun _ => #[])).push (seqObj "tuple" vs.toArray 0)).push (seqObj "list" #[] 0))) as vs := hE.monoM fun r v hv x => by
    obtain ⟨b, o, n, t, u, x, y, e, h1, h2, h3⟩ := x
    exact ⟨b, o, n, t, u, x, y, e, keep _ _ (fun eb => hna v hv (by rw [e, eb])) h1, h2, h3⟩
  by_cases h2 : vs.toArray.size < 2
  · rw [if_pos h2, if_pos h2]
    refine wpAny_bind (wpAny_pure ?_)
    rw [StateT.run_pure]
    refine wpAny_bind (wpAny_pure ?_)
    dsimp only
    have eo : (arrOf (SortSt.mk' general' (vs.toArray.zip vs.toArray) #[] 7 none)).map (·.2) = vs.toArray := by
      show (vs.toArray.zip vs.toArray).map (·.2) = _
      simp only [List.zip_toArray, List.map_toArray]
      exact congrArg List.toArray (List.map_snd_zip (Nat.le_refl _))
    rw [eo]
    refine wpAny_bind (seqEpoch_at ho6 rfl ?_)
    refine wpAny_bind (listUpdate_at ho6 rfl ?_ (Nat.zero_le _) (by rw [List.size_toArray, sizeLine_eq]; omega))
    simp only [bne_self_eq_false, Bool.false_eq_true, if_false]
    refine wpAny_pure (h as vs (List.Perm.refl _) (each_self hE) ?_)
    rw [List.size_toArray] at h2
    match as, hlen with
    | [], _ => exact .nil
    | [_], _ => exact List.pairwise_singleton ..
    | _ :: _ :: _, e => simp at e; omega
  · rw [if_neg h2, if_neg h2]
    rw [List.size_toArray] at h2
    refine wpAny_bind (t4_kind (s := { s with heap := ((s.heap.update a (Obj.mapSeq fun _ => #[])).push (seqObj "tuple" vs.toArray 0)).push (seqObj "list" #[] 0) }) hE3 (by omega) ?_)
    have hl : (as.map rk).length = vs.length := by rw [List.length_map, hlen]
    obtain ⟨p, hp1, hp2, hp3⟩ := sort_run (l := as.map rk) hnd (fun x hx => by obtain ⟨r, hr, rfl⟩ := List.mem_map.mp hx; exact h5 r hr) (by omega) (by omega)
    rw [hl] at hp1 hp2
    have hrun : (kas_sort vs.length).kasWp (kas_ask prog w A (tuples' true) vs) (fun p' s' => p' = p ∧ s' = { s with heap := ((s.heap.update a (Obj.mapSeq fun _ => #[])).push (seqObj "tuple" vs.toArray 0)).push (seqObj "list" #[] 0) })
        { s with heap := ((s.heap.update a (Obj.mapSeq fun _ => #[])).push (seqObj "tuple" vs.toArray 0)).push (seqObj "list" #[] 0) } := by
      refine kas_pure (fun i j C hi hj hij hC => ?_) _ p hp1 ⟨rfl, rfl⟩
      have ei := List.getElem?_eq_getElem (show i < as.length by omega)
      have ej := List.getElem?_eq_getElem (show j < as.length by omega)
      have hne : rk as[i] ≠ rk as[j] := fun e => by
        have := (List.nodup_iff_pairwise_ne.mp hnd)
        rw [List.pairwise_iff_getElem] at this
        rcases Nat.lt_or_gt_of_ne hij with hl' | hl'
        · exact this i j (by omega) (by omega) hl' (by simpa using e)
        · exact this j i (by omega) (by omega) hl' (by simpa using e.symm)
      obtain ⟨k1, k2⟩ := hlt _ (List.getElem_mem (by omega)) _ (List.getElem_mem (by omega)) hne
      refine t4_ask hE3 ei ej k1 ?_
      rw [k2]
      have g1 : (as.map rk).getD i 0 = rk as[i] := by rw [List.getD_eq_getElem?_getD, List.getElem?_map, ei]; rfl
      have g2 : (as.map rk).getD j 0 = rk as[j] := by rw [List.getD_eq_getElem?_getD, List.getElem?_map, ej]; rfl
      rw [g1, g2] at hC
      exact hC
    refine wpAny_bind (wpAny_mono (kat_run (Q := fun st' s' => arrOf st' = p.map (kas_item (vs.toArray.zip vs.toArray)) ∧ failedOf st' = none ∧ s' = { s with heap := ((s.heap.update a (Obj.mapSeq fun _ => #[])).push (seqObj "tuple" vs.toArray 0)).push (seqObj "list" #[] 0) })
      (G := fun p' s' => p' = p ∧ s' = { s with heap := ((s.heap.update a (Obj.mapSeq fun _ => #[])).push (seqObj "tuple" vs.toArray 0)).push (seqObj "list" #[] 0) }) rfl (by omega) (by omega) (fun p' st' s' a1 a2 a3 a4 => ⟨a4.1 ▸ a2, a3, a4.2⟩) hrun) ?_ fun _ _ e => e)
    rintro ⟨⟨⟩, st'⟩ s' ⟨har, hf, rfl⟩
    dsimp only
    rw [kat_snds rfl har]
    have hpl : p.toList.length = vs.length := by have := hp2.length_eq; rwa [List.length_range] at this
    refine wpAny_bind (seqEpoch_at ho6 rfl ?_)
    refine wpAny_bind (listUpdate_at ho6 rfl ?_ (Nat.zero_le _) (by rw [List.size_toArray, List.length_map, hpl, sizeLine_eq]; omega))
    rw [hf]
    simp only [bne_self_eq_false, Bool.false_eq_true, if_false]
    refine wpAny_pure (h (p.toList.map fun i => as.getD i ("", "", "", "")) _ ?_ ?_ ?_)
    · have := hp2.map fun i => as.getD i ("", "", "", "")
      rw [← hlen, map_range_getD] at this
      exact this
    · refine each_map fun i hi => ⟨i, ?_, ?_⟩
      · have hi' : i < vs.length := List.mem_range.mp (hp2.mem_iff.mp hi)
        have ei := List.getElem?_eq_getElem (show i < as.length by omega)
        rw [List.getD_eq_getElem?_getD, ei]; rfl
      · have hi' : i < vs.length := List.mem_range.mp (hp2.mem_iff.mp hi)
        have ei := List.getElem?_eq_getElem hi'
        rw [List.getD_eq_getElem?_getD, ei]; rfl
    · rw [List.map_map]
      have e : p.toList.map (rk ∘ fun i => as.getD i ("", "", "", "")) = p.toList.map ((as.map rk).getD · 0) := by
        refine List.map_congr_left fun i hi => ?_
        have hi' : i < vs.length := List.mem_range.mp (hp2.mem_iff.mp hi)
        have ei := List.getElem?_eq_getElem (show i < as.length by omega)
        show rk (as.getD i _) = _
        rw [List.getD_eq_getElem?_getD, List.getD_eq_getElem?_getD, List.getElem?_map, ei]; rfl
      rw [e]
      exact hp3
end
end Mine
namespace Mine
theorem V4.mono {g g' : Kn} (k : ∀ a vs, g a (.tup vs) → g' a (.tup vs)) (p : R4) (v : Value) (h : V4 g p v) : V4 g' p v := let ⟨a, t, u, x, y, e, h⟩ := h; ⟨a, t, u, x, y, e, k _ _ h⟩
/-- sorted(l): tuples of four texts, told apart by what stands ahead in them -/
theorem w_sortedR {c : Cx} {m : Str → Option Value} {mu : Led} {l : Addr} {as : List R4} {vs : List Value} {Q : Value → St → Prop} (k : kn c ⟨m, mu⟩ l (.lst vs)) (hE : Each (V4 (kn c ⟨m, mu⟩)) as vs) (h64 : as.length ≤ 5)
    {rk : R4 → Nat} (h5 : ∀ r ∈ as, rk r < 5) (hnd : (as.map rk).Nodup) (hlt : ∀ r ∈ as, ∀ r' ∈ as, rk r ≠ rk r' → (r.1, r.2.1) ≠ (r'.1, r'.2.1) ∧ ltR r r' = decide (rk r < rk r'))
    (q : ∀ D out ovs, out.Perm as → Each (V4 (kn c ⟨m, mu⟩)) out ovs → (out.map rk).Pairwise (· < ·) → Q (.ref D) ⟨m, (D, .lst ovs) :: mu⟩) : W c (call (.builtin "sorted") [.ref l]) Q ⟨m, mu⟩ := by
  intro h tk R
  have hlen := hE.len
  have hl := Sh.lst_is (R.know k)
  have hT : Each (T4 h) as vs := hE.mono fun r v x => by
    obtain ⟨a, t, u, x, y, e, k⟩ := x
    obtain ⟨o, eo, n, rfl⟩ := R.know k
    exact ⟨a, _, n, t, u, x, y, e, eo, rfl, rfl⟩
  refine call_function_entry kind_sorted plain_sorted entry_sorted (args_sorted1 _) ?_
  unfold Builtin.«sorted»
  refine wpAny_bind (m := checkCount "sorted" 1 1 _) (wpAny_pure ?_)
  refine wpAny_bind (collect_list hl ?_ (by rw [sizeLine_eq]; omega))
  refine wpAny_bind (wpAny_newList ?_ (by rw [sizeLine_eq]; omega))
  have keep : ∀ b o, h.get? b = some o → ((h.push (seqObj "list" #[] 0)).update h.objs.size (Obj.mapSeq (· ++ vs.toArray))).get? b = some o := fun b o e => by
    rw [Heap.get?_update_ne _ _ _ _ (Nat.ne_of_lt (Heap.lt_size e))]
    exact Heap.get?_push_of_some _ e
  have R' := R.grows keep
  have hT' := hT.mono (T4.keeps keep)
  show wpAny _ _ _ _ _ { c.s with heap := ((h.push (seqObj "list" #[] 0)).update h.objs.size (Obj.mapSeq (· ++ vs.toArray))).push (seqObj "list" vs.toArray 0), toks := tk + 1 }
  dsimp only
  generalize (h.push (seqObj "list" #[] 0)).update h.objs.size (Obj.mapSeq (· ++ vs.toArray)) = h1 at R' hT' ⊢
  have R1 := R'.alloc (o := seqObj "list" vs.toArray 0) (sh := .lst vs) ⟨_, rfl⟩ rfl
  have hoL : (h1.push (seqObj "list" vs.toArray 0)).get? h1.objs.size = some (seqObj "list" vs.toArray 0) := Heap.get?_push_size _ rfl
  have hna : ∀ v ∈ vs, v ≠ .ref h1.objs.size := fun v hv e => by
    obtain ⟨i, hi⟩ := List.mem_iff_getElem?.mp hv
    obtain ⟨r, _, a, o, n, t, u, x, y, e2, e3, _⟩ := hT'.get' hi
    rw [e2] at e
    cases e
    exact absurd (Heap.lt_size e3) (Nat.lt_irrefl _)
  refine wpAny_bind (wpAny_holding (wpAny_call_entry slot_list_sort ⟨_, hoL, rfl⟩ entry_list_sort (list_sortR (s := { c.s with heap := h1.push (seqObj "list" vs.toArray 0), toks := tk + 1 }) hoL (hT'.mono (T4.keeps fun b o e => Heap.get?_push_of_some _ e)) hna (by omega) h5 hnd hlt fun out ovs a1 a2 a3 => ⟨_, rfl, ?_⟩) (args_list_sort _)))
  obtain ⟨e, he⟩ := sortedHeap_at (vs := vs) (out := ovs.toArray) hoL
  refine wpAny_pure ⟨_, rfl, ?_⟩
  refine Post.mk (R1.turn Up.head (⟨_, he, e, rfl⟩ : At c.prog c.w _ _ (.lst ovs)) fun b o hb eb => (sortedHeap_old hb (Heap.lt_size eb)).trans eb) (q _ out ovs a1 (a2.mono fun r v ⟨i, e1, e2⟩ => ?_) a3)
  obtain ⟨v', e3, x⟩ := hE.get e1
  rw [e2] at e3
  cases e3
  exact x
end Mine
end -- L16

section -- L17
open PySem PySem.W PySem.Calls PyProof.Rows PySem.Builtin

namespace Mine
section
variable {c : Cx} {st : St} {env : Env} {h : Heap}
theorem Rel.addSh {m : Str → Option Value} {C : Addr} {sh : Sh} {mu : Led} (R : Rel c ⟨m, mu⟩ h) (e : At c.prog c.w h C sh) (hg : ∀ sh, ¬ c.g C sh) (hL : C ≠ c.L) (hmu : ∀ p ∈ mu, p.1 ≠ C) : Rel c ⟨m, (C, sh) :: mu⟩ h where
  ns := R.ns
  fz := R.fz
  led := fun p hp => by
    rcases List.mem_cons.mp hp with rfl | hp
    · exact e
    · exact R.led p hp
  nd := by
    rw [List.map_cons]
    refine List.nodup_cons.mpr ⟨fun hm => ?_, R.nd⟩
    obtain ⟨p, hp, e⟩ := List.mem_map.mp hm
    exact hmu p hp e
  dj := fun p hp sh k => by
    rcases List.mem_cons.mp hp with rfl | hp
    · exact hg sh k
    · exact R.dj p hp sh k
  gr := R.gr
  Lmu := fun p hp => by
    rcases List.mem_cons.mp hp with rfl | hp
    · exact hL
    · exact R.Lmu p hp
  Lg := R.Lg
  above := R.above
/-- several objects of the ledger are turned at once -/
theorem Rel.turnAll {m : Str → Option Value} {ws ws' mu : Led} {h' : Heap} (R : Rel c ⟨m, ws ++ mu⟩ h) (he : ws'.map (·.1) = ws.map (·.1)) (hw : ∀ p ∈ ws', At c.prog c.w h' p.1 p.2)
    (hk : ∀ b o, b ∉ ws.map (·.1) → h.get? b = some o → h'.get? b = some o) : Rel c ⟨m, ws' ++ mu⟩ h' := by
  have hin : ∀ {p : Addr × Sh}, p ∈ ws' → ∃ q ∈ ws, q.1 = p.1 := fun {p} hp => by
    have : p.1 ∈ ws.map (·.1) := he ▸ List.mem_map_of_mem hp
    obtain ⟨q, hq, e⟩ := List.mem_map.mp this
    exact ⟨q, hq, e⟩
  have hnd := R.nd
  rw [List.map_append] at hnd
  refine ⟨R.ns.at' fun o e => hk _ o (fun hm => ?_) e, fun b sh k => (R.fz b sh k).keeps fun o e => hk b o (fun hm => ?_) e, fun p hp => ?_, ?_, fun p hp sh k => ?_, R.gr, fun p hp => ?_, R.Lg, R.above⟩
  · obtain ⟨q, hq, e⟩ := List.mem_map.mp hm
    exact R.Lmu q (List.mem_append_left _ hq) e
  · obtain ⟨q, hq, e⟩ := List.mem_map.mp hm
    exact R.dj q (List.mem_append_left _ hq) sh (e ▸ k)
  · rcases List.mem_append.mp hp with hp | hp
    · exact hw p hp
    · exact (R.led p (List.mem_append_right _ hp)).keeps fun o e => hk _ o (fun hm => (List.nodup_append.mp hnd).2.2 _ hm _ (List.mem_map_of_mem (f := (·.1)) hp) rfl) e
  · show ((ws' ++ mu).map (·.1)).Nodup
    rw [List.map_append, he]
    exact hnd
  · rcases List.mem_append.mp hp with hp | hp
    · obtain ⟨q, hq, e⟩ := hin hp
      exact R.dj q (List.mem_append_left _ hq) sh (e ▸ k)
    · exact R.dj p (List.mem_append_right _ hp) sh k
  · rcases List.mem_append.mp hp with hp | hp
    · obtain ⟨q, hq, e⟩ := hin hp
      exact e ▸ R.Lmu q (List.mem_append_left _ hq)
    · exact R.Lmu p (List.mem_append_right _ hp)

abbrev zipObj (TI TO : Addr) (f0 : Value) : Obj := { cls := .type "zip", dict := none, data := .fields #[f0, .bool false, .bool false, .ref TI, .ref TO], slots := #[] }
abbrev pairObj (a b : Value) : Obj := { cls := .type "tuple", data := .seq #[a, b] }
noncomputable def zipLed (z TO i1 i2 : Addr) (oz oT o1 o2 : Obj) : Led := [(z, .obj oz), (TO, .obj oT), (i1, .obj o1), (i2, .obj o2)]
theorem w_asTupO {elts : List Expr} {k} {pos : Pos} {a : Addr} {o : Obj} {n : Nat} {vs : List Value} {Q : Unit → St → Prop} (ha : kn c st a (.obj o)) (hc : o.cls = .type "tuple") (hd : o.data = .seq vs.toArray n) (hw : W c (assignInOrder ((assignEach elts env).map (·.2)) vs) Q st)
    (hn : (assignEach elts env).length = vs.length) (hstar : (assignEach elts env).findIdx? (·.1) = none) (hh : c.A.handled = none) : W c (PySem.assign (.Tuple elts k pos) env (.ref a)) Q st := by
  intro h tk R
  obtain ⟨o', e, q⟩ := R.know ha
  have q' : o' = o := q
  subst q'
  have ht : IsTup h a vs.toArray := ⟨o', e, hc, n, hd⟩
  exact assign_Tuple_tuple hh ht (by simpa using hn) hstar fun h' he => by simpa using hw h' tk (R.extBut he)
/-- a walk over two lists, side by side -/
theorem w_forZip {elts : List Expr} {kk : Nat} {pos : Pos} {body : List Stmt} {z TI TO i1 i2 l1 l2 : Addr} {xs ys : List Value} {m : Str → Option Value} {mu : Led} {oz oT o1 o2 : Obj} {Q : Flow → St → Prop} (hh : c.A.handled = none) (D : ZipApart z TI TO i1 i2 l1 l2)
    (kTI : c.g TI (.obj (pairObj (.ref i1) (.ref i2)))) (kl1 : c.g l1 (.lst xs)) (kl2 : c.g l2 (.lst ys)) (hlen : xs.length = ys.length)
    (hz0 : oz = zipObj TI TO .none) (hT0 : oT = pairObj .none .none) (ho1 : o1.cls = .type "list_iterator" ∧ o1.data = .fields #[.ref l1, .int 0 0]) (ho2 : o2.cls = .type "list_iterator" ∧ o2.data = .fields #[.ref l2, .int 0 0]) (J : Nat → St → Prop)
    (h0 : J 0 ⟨m, mu⟩)
    (turn : ∀ i x y T st g', xs[i]? = some x → ys[i]? = some y → J i st → (∀ a sh, c.g a sh → g' a sh) → (∃ ot n, g' T (.obj ot) ∧ ot.cls = .type "tuple" ∧ ot.data = .seq [x, y].toArray n) →
      W (c.sg g') (assign (.Tuple elts kk pos) env (.ref T)) (fun _ st₂ => W (c.sg g') (execs body env) (Turn (J (i + 1)) Q) st₂) st)
    (fin : ∀ st, J xs.length st → Q .next st) : W c (forSem (.ref z) (.Tuple elts kk pos) body env) Q ⟨m, zipLed z TO i1 i2 oz oT o1 o2 ++ mu⟩ := by
  intro h tk R
  have wk := WalksT.zip2 (prog := c.prog) (w := c.w) (A := c.A) hh z TI TO i1 i2 l1 l2 D xs.toArray ys.toArray
  have hmin : min xs.toArray.size ys.toArray.size = xs.length := by rw [List.size_toArray, List.size_toArray, ← hlen, Nat.min_self]
  rw [hmin] at wk
  have pick : ∀ {h' : Heap} {mu' : Led} {m' : Str → Option Value} {a b d e : Obj}, Rel c ⟨m', zipLed z TO i1 i2 a b d e ++ mu'⟩ h' → h'.get? z = some a ∧ h'.get? TO = some b ∧ h'.get? i1 = some d ∧ h'.get? i2 = some e := fun {h' mu' m' a b d e} R' => by
    have g1 : ∀ {x : Addr} {o : Obj}, (x, Sh.obj o) ∈ zipLed z TO i1 i2 a b d e → h'.get? x = some o := fun {x o} hm => by
      obtain ⟨o', e', q⟩ := R'.led _ (List.mem_append_left _ hm)
      have q' : o' = o := q
      rw [← q']; exact e'
    exact ⟨g1 (.head _), g1 (.tail _ (.head _)), g1 (.tail _ (.tail _ (.head _))), g1 (.tail _ (.tail _ (.tail _ (.head _))))⟩
  have tiAt : ∀ {h' : Heap}, (∀ a sh, c.g a sh → At c.prog c.w h' a sh) → IsPair h' TI (.ref i1) (.ref i2) ∧ h'.IsList l1 xs.toArray ∧ h'.IsList l2 ys.toArray := fun {h'} f => by
    obtain ⟨o', e', q⟩ := f _ _ kTI
    have q' : o' = pairObj (.ref i1) (.ref i2) := q
    subst q'
    exact ⟨e', Sh.lst_is (f _ _ kl1), Sh.lst_is (f _ _ kl2)⟩
  obtain ⟨p1, p2, p3, p4⟩ := pick R
  obtain ⟨q1, q2, q3⟩ := tiAt R.fz
  have hzR : IsZip h z TI TO .none := by rw [hz0] at p1; exact p1
  unfold forSem
  refine wpAny_bind (wpAny_holding (wpAny_pyIter_zip hzR ?_))
  refine wpAny_runOwn ?_ (by intro x; cases x)
  refine codeAny_forLoop_any (fun k s' => ∃ i h tk st oz oT o1 o2, s' = { c.s with heap := h, toks := tk + 1 } ∧ i ≤ xs.length ∧ k = xs.length - i ∧ Rel c ⟨st.m, zipLed z TO i1 i2 oz oT o1 o2 ++ st.mu⟩ h ∧
    (IsZip h z TI TO .none ∧ IsPair h TI (.ref i1) (.ref i2) ∧ (∃ a b, IsPair h TO a b) ∧ h.IsListIter i1 l1 i ∧ h.IsListIter i2 l2 i ∧ h.IsList l1 xs.toArray ∧ h.IsList l2 ys.toArray) ∧ J i st) ?_ (xs.length - 0)
    ⟨0, h, tk, ⟨m, mu⟩, oz, oT, o1, o2, rfl, Nat.zero_le _, rfl, R, ⟨hzR, q1, ⟨.none, .none, by rw [hT0] at p2; exact p2⟩, ⟨o1, p3, ho1⟩, ⟨o2, p4, ho2⟩, q2, q3⟩, h0⟩
  rintro k _ ⟨i, h, tk, st, oz, oT, o1, o2, rfl, hi, rfl, R, hS, hJ⟩
  by_cases hlt : i < xs.length
  · refine wpAny_with_toks (n := 1) (Nat.succ_pos _) (wk.item i _ _ _ hlt hS fun T vals h' tk' hP hTn hT hMid hk htk => ?_)
    obtain ⟨tk', rfl⟩ : ∃ j, tk' = j + 1 := ⟨tk' - 1, by have : 1 ≤ tk' := htk; omega⟩
    refine wk.go elts kk pos i T _ _ _ hMid fun h2 hS2 hk2 => ?_
    have hTw := wk.apart _ _ _ hMid
    obtain ⟨x, y, hx, hy, rfl⟩ := hP
    have hx' : xs[i]? = some x := by simpa using hx
    have hy' : ys[i]? = some y := by simpa using hy
    obtain ⟨⟨b1, b2, ⟨ta, tb, b3⟩, ⟨oi1, b4, b4'⟩, ⟨oi2, b5, b5'⟩, b6, b7⟩⟩ : Nonempty _ := ⟨hS2⟩
    have hwr : ∀ b : Addr, b ∉ (zipLed z TO i1 i2 oz oT o1 o2).map (·.1) → b ∉ [z, TO, i1, i2] := fun b hb => hb
    have R2 : Rel c ⟨st.m, zipLed z TO i1 i2 (zipObj TI TO .none) (pairObj ta tb) oi1 oi2 ++ st.mu⟩ h2 := R.turnAll rfl (fun p hp => by
      rcases List.mem_cons.mp hp with rfl | hp
      · exact ⟨_, b1, rfl⟩
      rcases List.mem_cons.mp hp with rfl | hp
      · exact ⟨_, b3, rfl⟩
      rcases List.mem_cons.mp hp with rfl | hp
      · exact ⟨_, b4, rfl⟩
      rcases List.mem_cons.mp hp with rfl | hp
      · exact ⟨_, b5, rfl⟩
      · cases hp) fun b o hb e => hk2 b o (hwr b hb) (hk b o (hwr b hb) e)
    obtain ⟨ot, e1, e2, n, e3⟩ := hT
    have hTat : At c.prog c.w h2 T (.obj ot) := ⟨ot, hk2 T ot hTw e1, rfl⟩
    have hTlt : h.objs.size ≤ T := hTn
    have R3 : Rel c ⟨st.m, (T, .obj ot) :: (zipLed z TO i1 i2 (zipObj TI TO .none) (pairObj ta tb) oi1 oi2 ++ st.mu)⟩ h2 := R2.addSh hTat (fun sh kk => absurd (R.fz _ _ kk).lt (Nat.not_lt.mpr hTlt)) (fun e => absurd R.L_lt (by rw [← e]; exact Nat.not_lt.mpr hTlt)) fun p hp e => by
      rcases List.mem_append.mp hp with hp | hp
      · have hp' : p.1 ∈ [z, TO, i1, i2] := List.mem_map_of_mem (f := (·.1)) hp
        exact hTw (e ▸ hp')
      · exact absurd (R.led p (List.mem_append_right _ hp)).lt (by rw [e]; exact Nat.not_lt.mpr hTlt)
    have R4 : Rel (c.sg (ext c.g ((T, .obj ot) :: zipLed z TO i1 i2 (zipObj TI TO .none) (pairObj ta tb) oi1 oi2))) st h2 := Rel.freeze (fr := (T, .obj ot) :: zipLed z TO i1 i2 (zipObj TI TO .none) (pairObj ta tb) oi1 oi2) R3
    refine (turn i x y T st _ hx' hy' hJ (fun a sh k => .inl k) ⟨ot, n, .inr (.head _), e2, e3⟩).conv (c := c.sg (ext c.g ((T, .obj ot) :: zipLed z TO i1 i2 (zipObj TI TO .none) (pairObj ta tb) oi1 oi2))) R4 fun _ st₂ h₂ tk₂ R₂ q₂ => ?_
    refine q₂.conv (c := c.sg (ext c.g ((T, .obj ot) :: zipLed z TO i1 i2 (zipObj TI TO .none) (pairObj ta tb) oi1 oi2))) R₂ fun f st₃ h₃ tk₃ R₃ q₃ => ?_
    have R5 : Rel c ⟨st₃.m, (T, .obj ot) :: (zipLed z TO i1 i2 (zipObj TI TO .none) (pairObj ta tb) oi1 oi2 ++ st₃.mu)⟩ h₃ := Rel.thaw (fr := (T, .obj ot) :: zipLed z TO i1 i2 (zipObj TI TO .none) (pairObj ta tb) oi1 oi2) R3 R₃
    have R6 : Rel c ⟨st₃.m, zipLed z TO i1 i2 (zipObj TI TO .none) (pairObj ta tb) oi1 oi2 ++ st₃.mu⟩ h₃ := R5.sub (List.sublist_cons_self _ _)
    have R7 : Rel c st₃ h₃ := R6.sub (List.sublist_append_right _ _)
    obtain ⟨p1, p2, p3, p4⟩ := pick R6
    obtain ⟨q1, qq2, qq3⟩ := tiAt R6.fz
    have S3 : (IsZip h₃ z TI TO .none ∧ IsPair h₃ TI (.ref i1) (.ref i2) ∧ (∃ a b, IsPair h₃ TO a b) ∧ h₃.IsListIter i1 l1 (i + 1) ∧ h₃.IsListIter i2 l2 (i + 1) ∧ h₃.IsList l1 xs.toArray ∧ h₃.IsList l2 ys.toArray) :=
      ⟨p1, q1, ⟨ta, tb, p2⟩, ⟨oi1, p3, b4'⟩, ⟨oi2, p4, b5'⟩, qq2, qq3⟩
    cases f with
    | next => exact ⟨xs.length - (i + 1), by omega, i + 1, h₃, tk₃, st₃, _, _, _, _, rfl, hlt, rfl, R6, S3, q₃⟩
    | cont => exact ⟨xs.length - (i + 1), by omega, i + 1, h₃, tk₃, st₃, _, _, _, _, rfl, hlt, rfl, R6, S3, q₃⟩
    | brk => exact .mk R7 q₃
    | ret v => exact .mk R7 q₃
  · have hin : i = xs.length := Nat.le_antisymm hi (Nat.not_lt.mp hlt)
    subst hin
    refine wk.done _ _ _ hS fun h' tk' hk => ?_
    refine wpAny_execs_nil ?_
    have R' : Rel c st h' := by
      have hnd := R.nd
      rw [List.map_append] at hnd
      have nw : ∀ {b : Addr} {o : Obj}, b ∉ (zipLed z TO i1 i2 oz oT o1 o2).map (·.1) → h.get? b = some o → h'.get? b = some o := fun {b o} hb e => hk b o hb e
      have R1 : Rel c st h := R.sub (mu' := st.mu) (List.sublist_append_right _ _)
      refine ⟨R1.ns.at' fun o e => nw (fun hm => ?_) e, fun a sh k => (R1.fz a sh k).keeps fun o e => nw (fun hm => ?_) e, fun p hp => (R1.led p hp).keeps fun o e => nw (fun hm => ?_) e, R1.nd, R1.dj, R1.gr, R1.Lmu, R1.Lg, R1.above⟩
      · obtain ⟨q, hq, e⟩ := List.mem_map.mp hm
        exact R.Lmu q (List.mem_append_left _ hq) e
      · obtain ⟨q, hq, e⟩ := List.mem_map.mp hm
        exact R.dj q (List.mem_append_left _ hq) sh (e ▸ k)
      · exact (List.nodup_append.mp hnd).2.2 _ hm _ (List.mem_map_of_mem (f := (·.1)) hp) rfl
    exact .mk R' (fin _ hJ)
/-- zip of two lists -/
theorem w_zip {m : Str → Option Value} {mu : Led} {l1 l2 : Addr} {xs ys : List Value} {Q : Value → St → Prop} (k1 : kn c ⟨m, mu⟩ l1 (.lst xs)) (k2 : kn c ⟨m, mu⟩ l2 (.lst ys))
    (q : ∀ z TI TO i1 i2 oz oT o1 o2, ZipApart z TI TO i1 i2 l1 l2 → oz = zipObj TI TO .none → oT = pairObj .none .none → (o1.cls = .type "list_iterator" ∧ o1.data = .fields #[.ref l1, .int 0 0]) → (o2.cls = .type "list_iterator" ∧ o2.data = .fields #[.ref l2, .int 0 0]) →
      Q (.ref z) ⟨m, zipLed z TO i1 i2 oz oT o1 o2 ++ (TI, .obj (pairObj (.ref i1) (.ref i2))) :: mu⟩) : W c (call (.type "zip") [.ref l1, .ref l2]) Q ⟨m, mu⟩ := by
  intro h tk R
  have hl1 := Sh.lst_is (R.know k1)
  have hl2 := Sh.lst_is (R.know k2)
  have b1 : l1 < h.objs.size := (R.know k1).lt
  have b2 : l2 < h.objs.size := (R.know k2).lt
  refine call_zip_2 hl1 hl2 fun h' hz hTI hTO ⟨o1, e1, f1⟩ ⟨o2, e2, f2⟩ hsz hk => ?_
  have R0 := R.grows hk
  have hL := R.L_lt
  have add : ∀ {mu' : Led} {k : Nat} {o : Obj}, Rel c ⟨m, mu'⟩ h' → h'.get? (h.objs.size + k) = some o → (∀ p ∈ mu', p.1 < h.objs.size ∨ ∃ j, j ≠ k ∧ p.1 = h.objs.size + j) → Rel c ⟨m, (h.objs.size + k, .obj o) :: mu'⟩ h' := fun {mu' k o} R' e hp => by
    refine R'.addSh ⟨o, e, rfl⟩ (fun sh kk => absurd (R.fz _ _ kk).lt (Nat.not_lt.mpr (Nat.le_add_right _ _))) (Nat.ne_of_gt (Nat.lt_of_lt_of_le hL (Nat.le_add_right _ _))) fun p hp' e' => ?_
    rcases hp p hp' with h1 | ⟨j, h1, h2⟩
    · rw [e'] at h1
      exact absurd h1 (Nat.not_lt.mpr (Nat.le_add_right _ _))
    · exact h1 (Nat.add_left_cancel (h2.symm.trans e'))
  have lo : ∀ p ∈ mu, p.1 < h.objs.size := fun p hp => (R.led p hp).lt
  have A1 := add (k := 2) R0 hTI fun p hp => .inl (lo p hp)
  have A2 := add (k := 1) A1 e2 fun p hp => by
    rcases List.mem_cons.mp hp with rfl | hp
    · exact .inr ⟨2, by decide, rfl⟩
    · exact .inl (lo p hp)
  have A3 := add (k := 0) A2 e1 fun p hp => by
    rcases List.mem_cons.mp hp with rfl | hp
    · exact .inr ⟨1, by decide, rfl⟩
    rcases List.mem_cons.mp hp with rfl | hp
    · exact .inr ⟨2, by decide, rfl⟩
    · exact .inl (lo p hp)
  have A4 := add (k := 3) A3 hTO fun p hp => by
    rcases List.mem_cons.mp hp with rfl | hp
    · exact .inr ⟨0, by decide, rfl⟩
    rcases List.mem_cons.mp hp with rfl | hp
    · exact .inr ⟨1, by decide, rfl⟩
    rcases List.mem_cons.mp hp with rfl | hp
    · exact .inr ⟨2, by decide, rfl⟩
    · exact .inl (lo p hp)
  have A5 := add (k := 4) A4 hz fun p hp => by
    rcases List.mem_cons.mp hp with rfl | hp
    · exact .inr ⟨3, by decide, rfl⟩
    rcases List.mem_cons.mp hp with rfl | hp
    · exact .inr ⟨0, by decide, rfl⟩
    rcases List.mem_cons.mp hp with rfl | hp
    · exact .inr ⟨1, by decide, rfl⟩
    rcases List.mem_cons.mp hp with rfl | hp
    · exact .inr ⟨2, by decide, rfl⟩
    · exact .inl (lo p hp)
  exact Post.mk A5 (q (h.objs.size + 4) (h.objs.size + 2) (h.objs.size + 3) h.objs.size (h.objs.size + 1) _ _ o1 o2 (zipApart_new b1 b2) rfl rfl f1 f2)
end
end Mine
end -- L17

section -- L18
open PySem PySem.W PySem.Calls PyProof.Rows
namespace Mine
section
variable {α : Type} {c : Cx} {st : St} {env : Env}
/-- as W, from a state in which no token may have been drawn yet -/
noncomputable def Vz (c : Cx) (t : Sem α) (Q : α → St → Prop) (st : St) : Prop :=
  ∀ h tk, Rel c st h → wpAny (model c.prog c.w) c.A t (fun v s' => ∃ st' h' tk', s' = { c.s with heap := h', toks := tk' + 1 } ∧ Rel c st' h' ∧ Q v st') No { c.s with heap := h, toks := tk }
noncomputable def CallsV (prog : Program) (w : World) (O : Heap) (A : Around) (f : Value) (args : List Value) (g : Kn) (mu : Led) (Q : Value → Led → Prop) : Prop :=
  ∀ (s : Shared) h tk, Rel0 prog w O g mu h → codeAny (model prog w) A (.call f ⟨args, []⟩) (CallPost prog w O g s Q) { s with heap := h, toks := tk }
theorem Vz.conv {t : Sem α} {Q : α → St → Prop} {Q' : α → Shared → Prop} {E : Value → Shared → Prop} (hw : Vz c t Q st) {h : Heap} {tk : Nat} (R : Rel c st h)
    (k : ∀ v st' h' tk', Rel c st' h' → Q v st' → Q' v { c.s with heap := h', toks := tk' + 1 }) : wpAny (model c.prog c.w) c.A t Q' E { c.s with heap := h, toks := tk } :=
  wpAny_mono (hw h tk R) (fun v s' ⟨st', h', tk', e, R', q⟩ => by subst e; exact k v st' h' tk' R' q) fun _ _ f => f.elim
theorem W.vz {t : Sem α} {Q : α → St → Prop} (hw : W c t Q st) {h : Heap} {tk : Nat} (R : Rel c st h) : wpAny (model c.prog c.w) c.A t (fun v s' => ∃ st' h' tk', s' = { c.s with heap := h', toks := tk' + 1 } ∧ Rel c st' h' ∧ Q v st') No { c.s with heap := h, toks := tk + 1 } :=
  hw.conv R fun _ _ _ _ R' q => ⟨_, _, _, rfl, R', q⟩
theorem v_cStr {x : Str} {k pos} {Q : Value → St → Prop} (q : ∀ t, Q (.str x t) st) : Vz c (eval (.Constant (.str x) k pos) env) Q st := fun _ _ R => wpAny_Constant_str ⟨_, _, _, rfl, R, q _⟩
theorem v_splCons {e : Expr} {rest : List Expr} {pos : Pos} {Q : List Value → St → Prop} (hw : Vz c (eval e env) (fun v st₁ => W c (spliced (backTo pos (starEach rest env))) (fun vs st₂ => Q (v :: vs) st₂) st₁) st)
    (he : starEach (e :: rest) env = (false, eval e env) :: starEach rest env := by rfl) : Vz c (spliced (backTo pos (starEach (e :: rest) env))) Q st :=
  fun _ _ R => spliced_more (hw.conv R fun _ _ _ _ R₁ q₁ => q₁.conv R₁ fun _ _ _ _ R₂ q₂ => ⟨_, _, _, rfl, R₂, q₂⟩) he
theorem v_tuple {elts k pos} {Q : Value → St → Prop} (hw : Vz c (spliced (backTo pos (starEach elts env))) (fun vs st₁ => W c (PySem.newTuple vs) Q st₁) st) : Vz c (eval (.Tuple elts k pos) env) Q st :=
  fun _ _ R => Tuple_ (hw.conv R fun _ _ _ _ R₁ q₁ => q₁.vz R₁)
theorem v_list {elts pos} {Q : Value → St → Prop} (hw : Vz c (spliced (backTo pos (starEach elts env))) (fun vs st₁ => W c (PySem.newList vs) Q st₁) st) : Vz c (eval (.List elts pos) env) Q st :=
  fun _ _ R => List_ (hw.conv R fun _ _ _ _ R₁ q₁ => q₁.vz R₁)
theorem v_assign {x pos' value pos} {Q : Flow → St → Prop} (hw : Vz c (eval value env) (fun v st₁ => W c (storeName env x v) (fun _ => Q .next) st₁) st) (hs : swapsWith value (some (.Name x pos')) pos.line env = pure false := by rfl) : Vz c (exec (.Assign [.Name x pos'] value pos) env) Q st :=
  fun _ _ R => wpAny_Assign_Name (hw.conv R fun _ _ _ _ R₁ q₁ => q₁.conv R₁ fun _ _ _ _ R₂ q₂ => ⟨_, _, _, rfl, R₂, q₂⟩) hs
theorem v_seq {s rest} {Q : Flow → St → Prop} (hw : Vz c (exec s env) (Seq (fun st₁ => W c (execs rest env) Q st₁) Q) st) : Vz c (execs (s :: rest) env) Q st :=
  fun _ _ R => wpAny_execs_cons (hw.conv R fun f _ _ _ R₁ q₁ => by
    cases f with
    | next => exact W.vz q₁ R₁
    | brk => exact ⟨_, _, _, rfl, R₁, q₁⟩
    | cont => exact ⟨_, _, _, rfl, R₁, q₁⟩
    | ret v => exact ⟨_, _, _, rfl, R₁, q₁⟩)
end
section
theorem CallsV.defV {prog : Program} {w : World} {O : Heap} {A : Around} {g : Kn} {mu : Led} {Q : Value → Led → Prop} {f : Addr} {args : List Value}
    {oc : Value} {od : Option Addr} {osl : Array (Option Value)} {name qual : Str} {params : Arguments} {body : List Stmt} {scope : Scope} {dV kV doc pm cdv ct : Value} {an : Option Addr} {binds : List (Str × Value)}
    (hl : O.NoLimit) (hroom : A.depth < recursionLimit)
    (ho : O.get? f = some ⟨oc, od, .func (fnOf name qual params body scope dV kV doc pm an cdv ct), osl⟩) (hcd : O.CodeRec cdv qual)
    (hbind : ∀ s : Shared, (∀ a o, O.get? a = some o → s.heap.get? a = some o) → BindsTo s (fnOf name qual params body scope dV kV doc pm an cdv ct) ⟨args, []⟩ binds)
    (hkind : (binds.all fun y => scope.names.lookup y.1 == some .local || scope.names.lookup y.1 == some .cell) = true)
    (hnd : ((cellsFrom 0 scope.names []).map (·.1)).Nodup)
    (hw : ∀ L s, Vz ⟨prog, w, O, A.deeper (envOfC qual scope L f cdv), g, L, s⟩ (execs body (envOfC qual scope L f cdv)) (fun fl st' => Q (flowVal fl) st'.mu)
      ⟨bindL (fun x => scope.names.lookup x) binds fun _ => none, cellLed (bindC (fun x => scope.names.lookup x) binds fun _ => none) (cellsFrom (L + 1) scope.names []) ++ mu⟩)
    (hco : scope.isCoroutine = false) (hgen : scope.isGenerator = false) (hk : scope.kind = .function) : CallsV prog w O A (.ref f) args g mu Q := by
  intro s h tk R
  have gr : ∀ a o, O.get? a = some o → h.get? a = some o := fun a o e => by
    obtain ⟨o', e', q⟩ := R.fz a _ (R.gr a o e)
    have : o' = o := q
    rw [e', this]
  refine codeAny_call_function hroom (gr _ _ ho) rfl hco hgen rfl (hcd.keeps gr) (hbind _ gr _ _ _ _ ?_)
  refine wpAny_newFunctionEnv_cells hk (kindsX hkind _) fun env' he s' x => ?_
  subst he
  refine ⟨(hl.keeps gr).keeps x.toInCall.keep, codeAny_func ?_⟩
  obtain ⟨h₁, tk₁, rfl, _⟩ := x.done
  have hk₁ := x.toInCall.keep
  have R₁ : Rel ⟨prog, w, O, A.deeper (envOfC qual scope h.objs.size f cdv), g, h.objs.size, s⟩ ⟨bindL (fun x => scope.names.lookup x) binds fun _ => none, mu⟩ h₁ := R.enter x.toInCall.ns hk₁
  have nn : ((cellsFrom (h.objs.size + 1) scope.names []).map (·.1)).Nodup := cellsFrom_names scope.names 0 (h.objs.size + 1) [] [] rfl ▸ hnd
  have R₂ : Rel ⟨prog, w, O, A.deeper (envOfC qual scope h.objs.size f cdv), g, h.objs.size, s⟩
      ⟨bindL (fun x => scope.names.lookup x) binds fun _ => none, cellLed (bindC (fun x => scope.names.lookup x) binds fun _ => none) (cellsFrom (h.objs.size + 1) scope.names []) ++ mu⟩ h₁ := by
    have mem : ∀ p ∈ cellLed (bindC (fun x => scope.names.lookup x) binds fun _ => none) (cellsFrom (h.objs.size + 1) scope.names []), At prog w h₁ p.1 p.2 ∧ h.objs.size < p.1 := by
      intro p hp
      obtain ⟨⟨n, a⟩, hq, rfl⟩ := List.mem_map.mp hp
      obtain ⟨o, e, q⟩ := x.cell n a (lookup_of_mem_nodup nn hq)
      exact ⟨⟨o, e, q⟩, x.above n a hq⟩
    refine ⟨R₁.ns, R₁.fz, fun p hp => ?_, ?_, fun p hp sh k => ?_, R₁.gr, fun p hp => ?_, R₁.Lg, R₁.above⟩
    · exact (List.mem_append.mp hp).elim (fun hm => (mem p hm).1) (R₁.led p)
    · show ((_ ++ mu).map (·.1)).Nodup
      rw [List.map_append]
      refine List.nodup_append.mpr ⟨?_, R.nd, fun a ha b hb e => ?_⟩
      · show ((cellLed _ _).map (·.1)).Nodup
        unfold cellLed
        rw [List.map_map]
        exact cells_nodup (acc := []) List.nodup_nil (fun _ hp => nomatch hp)
      · obtain ⟨p, hp, rfl⟩ := List.mem_map.mp ha
        obtain ⟨q, hq, rfl⟩ := List.mem_map.mp hb
        exact absurd (Nat.lt_trans (mem p hp).2 (by rw [e]; exact (R.led q hq).lt)) (Nat.lt_irrefl _)
    · exact (List.mem_append.mp hp).elim (fun hm => absurd (Nat.lt_trans (mem p hm).2 (R.fz _ _ k).lt) (Nat.lt_irrefl _)) fun hm => R.dj p hm sh k
    · exact (List.mem_append.mp hp).elim (fun hm => Nat.ne_of_gt (mem p hm).2) (R₁.Lmu p)
  exact (hw h.objs.size s).conv R₂ fun fl st' h' tk' R' q => ⟨st'.mu, h', tk' + 1, rfl, R'.leave rfl rfl, q⟩
theorem CallsV.fnV {prog : Program} {w : World} {O : Heap} {A : Around} {g : Kn} {mu : Led} {Q : Value → Led → Prop} {f : Addr} {args : List Value} {n : Nat} {K : Frag} {mg mb : Str → Option Value}
    {oc : Value} {od : Option Addr} {osl : Array (Option Value)} {name qual : Str} {params : Arguments} {body : List Stmt} {scope : Scope} {dV kV doc pm cdv ct : Value} {an : Option Addr} (binds : List (Str × Value)) (m0 : Str → Option Value) (cls : Addr → Led)
    (G : Gnd K O mg mb) (hA : Amb A (n + 1))
    (ho : K.lookup f = some ⟨oc, od, .func (fnOf name qual params body scope dV kV doc pm an cdv ct), osl⟩) (hcd : codeIn K cdv qual = true)
    (hbind : ∀ s : Shared, (∀ a o, O.get? a = some o → s.heap.get? a = some o) → BindsTo s (fnOf name qual params body scope dV kV doc pm an cdv ct) ⟨args, []⟩ binds)
    (hkind : (binds.all fun y => scope.names.lookup y.1 == some .local || scope.names.lookup y.1 == some .cell) = true)
    (hnd : ((cellsFrom 0 scope.names []).map (·.1)).Nodup)
    (hm : bindL (fun x => scope.names.lookup x) binds (fun _ => none) = m0) (hc : ∀ L, cellLed (bindC (fun x => scope.names.lookup x) binds fun _ => none) (cellsFrom (L + 1) scope.names []) = cls L)
    (hw : ∀ L s, let env := envOfC qual scope L f cdv; let c : Cx := ⟨prog, w, O, A.deeper env, g, L, s⟩; Amb c.A n → Gnd K c.O mg mb → Vz c (execs body env) (fun fl st' => Q (flowVal fl) st'.mu) ⟨m0, cls L ++ mu⟩)
    (hco : scope.isCoroutine = false) (hgen : scope.isGenerator = false) (hk : scope.kind = .function) : CallsV prog w O A (.ref f) args g mu Q :=
  CallsV.defV G.nolimit hA.depth (G.X _ _ ho) (codeRec_of G.X hcd) hbind hkind hnd (fun L s => by rw [hm, hc L]; exact hw L s hA.deeper G) hco hgen hk
end
end Mine
end -- L18

open PySem PySem.W PySem.Calls PyProof.Rows PySem.Builtin Mine
local macro_rules | `(tactic| walk_at "mlk") => `(tactic| repeat (first | with_reducible exact lk_here | with_reducible exact over_here | with_reducible assumption | refine lk_skip (by decide +kernel) ?_ | refine over_skip (by decide +kernel) ?_))
local macro_rules | `(tactic| walk_at "ml0") => `(tactic| ((try dsimp only); walk_at "mlk"))
local macro_rules | `(tactic| walk_at "mname") => `(tactic| first
  | (refine w_nameO (by walk_at "mlk") ?_)
  | (refine guardG (by rfl) ?_; first
    | refine w_nameG (by assumption) (mg_of (Gnd.X (by assumption)) (Gnd.g (by assumption)) (by k_is)) ?_
    | refine w_nameB (by assumption) (mg_none_of (Gnd.X (by assumption)) (Gnd.g (by assumption)) (by k_is)) (by boot_by_name) ?_)
  | (refine guardC (by rfl) ?_; refine w_nameC (by with_unfolding_all rfl) (by walk_at "mkn") ?_))
local macro_rules | `(tactic| walk_at "m1") => `(tactic| first
  | ((with_reducible show Seq _ _ .next _); refine Seq.next ?_)
  | ((with_reducible show Seq _ _ (.ret _) _); refine Seq.ret ?_)
  | ((with_reducible show Br true _ _); refine Br.t ?_)
  | ((with_reducible show Br false _ _); refine Br.f ?_)
  | ((with_reducible show W _ (execs (_ :: _) _) _ _); refine w_seq ?_)
  | ((with_reducible show W _ (execs [] _) _ _); refine w_nil ?_)
  | ((with_reducible show W _ (eval (.Name _ _) _) _ _); walk_at "mname")
  | ((with_reducible show W _ (eval (.Constant (.str _) _ _) _) _ _); refine w_cStr fun _ => ?_)
  | ((with_reducible show W _ (eval (.Constant (.int _) _ _) _) _ _); refine w_cInt fun _ => ?_)
  | ((with_reducible show W _ (eval (.Constant (.bool _) _ _) _) _ _); refine w_cBool ?_)
  | ((with_reducible show W _ (eval (.Constant .none _ _) _) _ _); refine w_cNone ?_)
  | ((with_reducible show W _ (eval (.BinOp _ _ _ _) _) _ _); refine w_binop ?_)
  | ((with_reducible show W _ (eval (.UnaryOp _ _ _) _) _ _); refine w_unop ?_)
  | ((with_reducible show W _ (eval (.Compare _ [_] [_] _) _) _ _); refine w_cmp ?_)
  | ((with_reducible show W _ (eval (.IfExp _ _ _ _) _) _ _); refine w_ifx ?_)
  | ((with_reducible show W _ (eval (.Attribute _ _ _) _) _ _); refine w_attr ?_)
  | ((with_reducible show W _ (eval (.Subscript _ _ _) _) _ _); refine w_subscript ?_)
  | ((with_reducible show W _ (eval (.Slice _ _ _ _) _) _ _); refine w_slice ?_)
  | ((with_reducible show W _ (evalPart none _) _ _); refine w_partNone ?_)
  | ((with_reducible show W _ (evalPart (some _) _) _ _); refine w_partSome ?_)
  | ((with_reducible show W _ (eval (.Call (.Attribute _ _ _) _ [] _) _) _ _); refine w_mcall ?_)
  | ((with_reducible show W _ (eval (.Call _ _ [] _) _) _ _); refine w_ecall ?_)
  | ((with_reducible show W _ (eval (.Tuple _ _ _) _) _ _); refine w_tuple ?_)
  | ((with_reducible show W _ (eval (.List _ _) _) _ _); refine w_list ?_)
  | ((with_reducible show W _ (spliced (backTo _ (starEach [.Constant (.str _) _ _, .Constant (.str _) _ _] _))) _ _); refine w_spl2 fun _ _ _ _ _ => ?_)
  | ((with_reducible show W _ (spliced (backTo _ (starEach (_ :: _) _))) _ _); refine w_splCons ?_)
  | ((with_reducible show W _ (spliced (backTo _ (starEach [] _))) _ _); refine w_splNil ?_)
  | ((with_reducible show W _ (callWith _ (.ref _) [] (backTo _ (starEach (_ :: _) _)) []) _ _); refine w_cwF0 (by assumption) (by k_is) ?_)
  | ((with_reducible show W _ (callWith _ (.ref _) [_] (backTo _ (starEach (_ :: _) _)) []) _ _); refine w_cwF1 (by assumption) (by k_is) ?_)
  | ((with_reducible show W _ (callWith _ (.ref _) [] (backTo _ (starEach [] _)) []) _ _); refine w_cwFn00 (by assumption) (by k_is) ?_)
  | ((with_reducible show W _ (callWith _ (.ref _) [_] (backTo _ (starEach [] _)) []) _ _); refine w_cwFn01 (by assumption) (by k_is) ?_)
  | ((with_reducible show W _ (callWith _ (.builtin _) [] (backTo _ (starEach (_ :: _) _)) []) _ _); refine w_cwB1 ?_)
  | ((with_reducible show W _ (callWith _ (.builtin _) [_] (backTo _ (starEach (_ :: _) _)) []) _ _); refine w_cwM1 ?_)
  | ((with_reducible show W _ (callWith _ (.builtin _) _ (backTo _ (starEach [] _)) []) _ _); refine w_cwB0 ?_)
  | ((with_reducible show W _ (callWith _ (.type _) _ (backTo _ (starEach (_ :: _) _)) []) _ _); refine w_cwT ?_)
  | ((with_reducible show W _ (callWith _ (Prod.fst (_, _)) (Prod.snd (_, _)) _ _) _ _); with_reducible refine w_cwPair ?_)
  | ((with_reducible show W _ (getMethod (.str _ _) "replace" _) _ _); with_reducible refine m_str_replace ?_)
  | ((with_reducible show W _ (getMethod (.str _ _) "join" _) _ _); with_reducible refine m_str_join ?_)
  | ((with_reducible show W _ (getMethod (.str _ _) "split" _) _ _); with_reducible refine m_str_split ?_)
  | ((with_reducible show W _ (exec (.Return (some _) _) _) _ _); refine w_ret ?_)
  | ((with_reducible show W _ (exec (.Expr _ _) _) _ _); refine w_expr ?_)
  | ((with_reducible show W _ (exec (.If _ _ _ _) _) _ _); refine w_if ?_)
  | ((with_reducible show W _ (exec (.For _ _ _ [] _) _) _ _); refine w_for ?_)
  | ((with_reducible show W _ (PySem.newTuple _) _ _); refine w_newTuple (fun _ => ?_) (by simp [sizeLine_eq]))
  | ((with_reducible show W _ (PySem.newList _) _ _); refine w_newList (fun _ => ?_) (by simp [sizeLine_eq]))
  | ((with_reducible show W _ (assign (.Tuple _ _ _) _ (.ref _)) _ _); refine w_asTup (by walk_at "mkn") ?_ (by rfl) (by rfl) (by assumption))
  | ((with_reducible show W _ (eval (.Dict [] [] _) _) _ _); refine w_dictNil (by assumption) fun _ => ?_)
  | ((with_reducible show W _ (evalPairs (pairTrees (_ :: _) _ _ _)) _ _); refine w_pairCons ?_)
  | ((with_reducible show W _ (evalPairs (pairTrees [] _ _ _)) _ _); refine w_pairNil ?_)
  | ((with_reducible show W _ (exec (.Assign [.Name _ _] _ _) _) _ _); refine w_assign ?_)
  | ((with_reducible show W _ (exec (.Assign [.Attribute _ _ _] _ _) _) _ _); refine w_assignAttr ?_)
  | ((with_reducible show W _ (exec (.Assign [.Subscript _ _ _] _ _) _) _ _); refine w_assignSub ?_)
  | ((with_reducible show W _ (storeName _ _ _) _ _); refine w_putO ?_)
  | ((with_reducible show W _ (PySem.bindName _ _ _) _ _); refine w_bindName ?_)
  | ((with_reducible show W _ (PySem.assign (.Name _ _) _ _) _ _); refine w_asName ?_)
  | ((with_reducible show W _ (assignInOrder (List.map _ (List.reverse [_, _])) (List.reverse [_, _])) _ _); with_reducible refine w_swap2 ?_)
  | ((with_reducible show W _ (assignInOrder (List.map _ (List.reverse [_, _, _])) (List.reverse [_, _, _])) _ _); with_reducible refine w_swap3 ?_)
  | ((with_reducible show W _ (unpackItems (.ref _) _ _) _ _); refine w_unpackItems (by walk_at "mkn") (by rfl) ?_ (by assumption))
  | ((with_reducible show W _ (assignInOrder _ (_ :: _)) _ _); refine w_aioE ?_)
  | ((with_reducible show W _ (assignInOrder _ []) _ _); refine w_aioZ ?_)
  | ((with_reducible show W _ (isTrue (.UnaryOp .Not _ _) _ _) _ _); refine w_tnot ?_)
  | ((with_reducible show W _ (isTrue (.BoolOp .And (_ :: _) _) _ _) _ _); refine w_and ?_)
  | ((with_reducible show W _ (isTrue (.BoolOp .And [] _) _ _) _ _); refine w_tandNil ?_)
  | ((with_reducible show W _ (isTrue (.BoolOp .Or (_ :: _) _) _ _) _ _); refine w_or ?_)
  | ((with_reducible show W _ (isTrue (.BoolOp .Or [] _) _ _) _ _); refine w_torNil ?_)
  | ((with_reducible show W _ (isTrue (.Compare _ [_] [_] _) _ _) _ _); refine w_tcmp ?_)
  | ((with_reducible show W _ (isTrue (.Compare _ (_ :: _ :: _) _ _) _ _) _ _); refine w_chain ?_)
  | ((with_reducible show W _ (testChain _ _ [_] _) _ _); refine w_tlast ?_)
  | ((with_reducible show W _ (testChain _ _ (_ :: _ :: _) _) _ _); refine w_link ?_)
  | ((with_reducible show W _ (isTrue _ _ _) _ _); refine w_tplain ?_)
  | ((with_reducible show W _ (truthy (.bool _)) _ _); refine w_truthyBool ?_)
  | ((with_reducible show W _ (compareOp .Eq (.str _ _) (.str _ _)) _ _); refine w_eqStr ?_)
  | ((with_reducible show W _ (compareOp .NotEq (.str _ _) (.str _ _)) _ _); refine w_neStr ?_)
  | ((with_reducible show W _ (compareOp .Is _ .none) _ _); refine w_is ?_)
  | ((with_reducible show W _ (compareOp .IsNot _ .none) _ _); refine w_isnot ?_)
  | ((with_reducible show W _ (compareOp .Eq (.int _ _) (.int _ _)) _ _); refine w_eqInt ?_)
  | ((with_reducible show W _ (compareOp .Lt (.int _ _) (.int _ _)) _ _); refine w_ltInt ?_)
  | ((with_reducible show W _ (compareOp .LtE (.int _ _) (.int _ _)) _ _); refine w_leInt ?_)
  | ((with_reducible show W _ (compareOp .Gt (.int _ _) (.int _ _)) _ _); refine w_gtInt ?_)
  | ((with_reducible show W _ (compareOp .GtE (.int _ _) (.int _ _)) _ _); refine w_geInt ?_)
  | ((with_reducible show W _ (binaryOp .Add (.int _ _) (.int _ _)) _ _); refine w_addInt fun _ => ?_)
  | ((with_reducible show W _ (binaryOp .Sub (.int _ _) (.int _ _)) _ _); refine w_subInt fun _ => ?_)
  | ((with_reducible show W _ (unaryOp .USub (.int _ _)) _ _); refine w_negInt fun _ => ?_))
local macro_rules | `(tactic| walk_at "ms") => `(tactic| repeat (walk_at "m1"))
local macro_rules | `(tactic| walk_at "mdef") => `(tactic| (refine Calls.fn _ (by assumption) (by first | assumption | exact Amb.le (by assumption)) (by k_is) (by k_is) (fun _ _ => BindsTo.of_eq (by rfl)) (locs rfl) ?_ (by rfl) (by rfl) (by rfl) (by decide)))
local macro_rules | `(tactic| walk_at "mal") => `(tactic| repeat (first | with_reducible exact al_here | refine al_skip (by decide +kernel) ?_ | exact rfl))
local macro_rules | `(tactic| walk_at "mmem") => `(tactic| first | assumption | exact List.Mem.head _ | (refine List.Mem.tail _ ?_; walk_at "mmem") | (refine List.mem_append_right _ ?_; walk_at "mmem") | (refine List.mem_append_left _ ?_; walk_at "mmem") | assumption)
local macro_rules | `(tactic| walk_at "mmemr") => `(tactic| first | with_reducible exact List.Mem.head _ | (refine List.Mem.tail _ ?_; walk_at "mmemr"))
local macro_rules | `(tactic| walk_at "mkn") => `(tactic| first | assumption | exact Or.inl (by assumption) | (refine kn_mu ?_; walk_at "mmem"))
local macro_rules | `(tactic| walk_at "mup") => `(tactic| first | exact Up.head | exact Up.tail (by walk_at "mup") | exact Up.appR (by walk_at "mup") _)
local macro_rules | `(tactic| walk_at "mperm") => `(tactic| repeat (first | exact List.Perm.refl _ | refine List.Perm.trans (List.Perm.cons _ ?_) List.perm_middle.symm))
local macro_rules | `(tactic| walk_at "mget") => `(tactic| (refine' w_getAttr (by assumption) ?k1 ?k2 ?h1 ?h2 ?h3 ?h4 ?h5 ?h6 ?_; (case k1 => walk_at "mkn"); (case k2 => walk_at "mkn"); (case h1 => k_is); (case h2 => k_is); (case h3 => k_is); (case h4 => k_is); (case h5 => ((try unfold attsOf); walk_at "mal")); (case h6 => first | assumption | rfl)))
local macro_rules | `(tactic| walk_at "mmeth") => `(tactic| (refine' w_method (by assumption) ?k1 ?k2 ?h1 ?h2 ?h3 ?h4 ?_; (case k1 => walk_at "mkn"); (case k2 => walk_at "mkn"); (case h1 => k_is); (case h2 => k_is); (case h3 => k_is); (case h4 => ((try unfold attsOf); walk_at "mal"))))
local macro_rules | `(tactic| walk_at "md_get") => `(tactic| ((with_reducible refine' m_dict_get ?k ?_); (case k => walk_at "mkn")))
local macro_rules | `(tactic| walk_at "md_pop") => `(tactic| ((with_reducible refine' m_dict_pop ?k ?_); (case k => walk_at "mkn")))
local macro_rules | `(tactic| walk_at "md_update") => `(tactic| ((with_reducible refine' m_dict_update ?k ?_); (case k => walk_at "mkn")))
local macro_rules | `(tactic| walk_at "ml_append") => `(tactic| ((with_reducible refine' m_list_append ?k ?_); (case k => walk_at "mkn")))
local macro_rules | `(tactic| walk_at "ml_pop") => `(tactic| ((with_reducible refine' m_list_pop ?k ?_); (case k => walk_at "mkn")))
local macro_rules | `(tactic| walk_at "mpair") => `(tactic| exact ⟨_, _, _, rfl, (by assumption : ∀ p ∈ _, _) (_, _) (by walk_at "mmem"), by assumption, by assumption, by assumption⟩)
local macro_rules | `(tactic| walk_at "mdict") => `(tactic| ((with_reducible refine' w_dict (by assumption) ?hw ?h1 ?h2 ?h3 ?h4); (case h1 => rfl); (case h2 => rfl); (case h3 => rfl); (case h4 => decide)))
local macro_rules | `(tactic| walk_at "matt") => `(tactic| first | exact attPut_nil | exact attPut_here | exact attPut_skip (by decide +kernel) (by walk_at "matt"))
local macro_rules | `(tactic| walk_at "mset") => `(tactic| (refine' w_setAttrE (by assumption) ?k1 ?u ?hp ?h1 ?h2 ?h3 ?h4 ?hz ?_; (case k1 => walk_at "mkn"); (case u => walk_at "mup"); (case hp => walk_at "matt"); (case h1 => k_is); (case h2 => k_is); (case h3 => k_is); (case h4 => k_is); (case hz => simp)))
local macro_rules | `(tactic| walk_at "msi") => `(tactic| repeat ((fail_if_success (with_reducible show W _ (exec (.If _ _ _ _) _) _ _)); walk_at "m1"))

theorem Mine.fill : (PySem.Challenge.rw_pf0177_01.Holds = PySem.Challenge.rw_pf0177_01.Holds) ∧ Mine.hk.heap_1 = Mine.hk.heap_1 := by
  k_fill
  exact ⟨rfl, rfl⟩

section -- F1
open PySem PySem.W PySem.Calls PyProof.Rows PySem.Builtin
namespace Mine
section
variable {prog : Program} {w : World} {O : Heap} {A : Around} {P : Params} {mg mb : Str → Option Value} {g : Kn} {T : TA} {t : List NR} {i : Nat} {tk : Tok} {v : NV} {nr : NR}

theorem treeLen (h : TreeIs T t) (hr : t[i]? = some nr) : ∃ v, T.vs[i]? = some v ∧ RowIs nr v := h.rows.get hr

theorem row_ok (G : Gnd (hk.heap_1 P) O mg mb) (hA : Amb A 1) (hT : TreeIs T t) (hg : inG g (treeLed T)) (hv : T.vs[i]? = some v) : Calls prog w O A (.ref 193) [.ref T.x, .int i tk] g [] (fun u _ => u = .ref v.y) := by
  refine Calls.fn (n := 0) [("node", .int i tk), ("self", .ref T.x)] G hA (by k_is) (by k_is) (fun _ _ => BindsTo.of_eq rfl) (locs rfl) ?_ (by rfl) (by rfl) (by rfl) (by decide)
  intro L s env c hA G
  have hi : i < T.vs.length := (List.getElem?_eq_some_iff.mp hv).1
  have hl : (T.vs.map fun v => Value.ref v.y).length = T.vs.length := List.length_map ..
  have hz : T.vs.length ≤ 100000 := by have := hT.rows.len; have := hT.small; omega
  have hz2 : (T.vs.map fun v => Value.ref v.y).length ≤ sizeLine := by rw [hl, sizeLine_eq]; omega
  have k1 := tg1 hg
  have k2 := tg2 hg
  have k3 := tg3 hg
  walk_at "ms"
  refine Br.tt (by simp) ?_
  walk_at "ms"
  walk_at "mget"
  walk_at "ms"
  refine w_lenLst (.inl k3) hz2 fun _ => ?_
  walk_at "ms"
  refine Br.ff (by simp [hi]) ?_
  walk_at "ms"
  walk_at "mget"
  walk_at "ms"
  refine w_itemLst (.inl k3) (Int.natCast_nonneg _) (by simpa using ⟨v, hv, rfl⟩) hz2 ?_
  rfl

theorem kind_ok (G : Gnd (hk.heap_1 P) O mg mb) (hA : Amb A 2) (hT : TreeIs T t) (hg : inG g (treeLed T)) (hr : t[i]? = some nr) : Calls prog w O A (.ref 270) [.ref T.x, .int i tk] g [] (fun u _ => SV nr.kind u) := by
  refine Calls.fn (n := 1) [("node", .int i tk), ("self", .ref T.x)] G hA (by k_is) (by k_is) (fun _ _ => BindsTo.of_eq rfl) (locs rfl) ?_ (by rfl) (by rfl) (by rfl) (by decide)
  intro L s env c hA G
  obtain ⟨v, hv, hR⟩ := hT.rows.get hr
  have k1 := tg1 hg
  have k2 := tg2 hg
  have k4 := rg1 hg hv
  have k5 := rg2 hg hv
  have kh := hR.kind.handed
  walk_at "ms"
  walk_at "mmeth"
  walk_at "ms"
  refine w_callPure _ (fun g' h1 _ => row_ok G hA hT (hg.mono h1) hv) ?_
  rintro _ rfl
  walk_at "mget"
  exact hR.kind

theorem name_ok (G : Gnd (hk.heap_1 P) O mg mb) (hA : Amb A 2) (hT : TreeIs T t) (hg : inG g (treeLed T)) (hr : t[i]? = some nr) : Calls prog w O A (.ref 277) [.ref T.x, .int i tk] g [] (fun u _ => SV nr.name u) := by
  refine Calls.fn (n := 1) [("node", .int i tk), ("self", .ref T.x)] G hA (by k_is) (by k_is) (fun _ _ => BindsTo.of_eq rfl) (locs rfl) ?_ (by rfl) (by rfl) (by rfl) (by decide)
  intro L s env c hA G
  obtain ⟨v, hv, hR⟩ := hT.rows.get hr
  have k1 := tg1 hg
  have k2 := tg2 hg
  have k4 := rg1 hg hv
  have k5 := rg2 hg hv
  have kh := hR.name.handed
  walk_at "ms"
  walk_at "mmeth"
  walk_at "ms"
  refine w_callPure _ (fun g' h1 _ => row_ok G hA hT (hg.mono h1) hv) ?_
  rintro _ rfl
  walk_at "mget"
  exact hR.name

theorem uri_ok (G : Gnd (hk.heap_1 P) O mg mb) (hA : Amb A 2) (hT : TreeIs T t) (hg : inG g (treeLed T)) (hr : t[i]? = some nr) : Calls prog w O A (.ref 284) [.ref T.x, .int i tk] g [] (fun u _ => SV nr.uri u) := by
  refine Calls.fn (n := 1) [("node", .int i tk), ("self", .ref T.x)] G hA (by k_is) (by k_is) (fun _ _ => BindsTo.of_eq rfl) (locs rfl) ?_ (by rfl) (by rfl) (by rfl) (by decide)
  intro L s env c hA G
  obtain ⟨v, hv, hR⟩ := hT.rows.get hr
  have k1 := tg1 hg
  have k2 := tg2 hg
  have k4 := rg1 hg hv
  have k5 := rg2 hg hv
  have kh := hR.uri.handed
  walk_at "ms"
  walk_at "mmeth"
  walk_at "ms"
  refine w_callPure _ (fun g' h1 _ => row_ok G hA hT (hg.mono h1) hv) ?_
  rintro _ rfl
  walk_at "mget"
  exact hR.uri

theorem local_ok (G : Gnd (hk.heap_1 P) O mg mb) (hA : Amb A 2) (hT : TreeIs T t) (hg : inG g (treeLed T)) (hr : t[i]? = some nr) : Calls prog w O A (.ref 291) [.ref T.x, .int i tk] g [] (fun u _ => SV nr.loc u) := by
  refine Calls.fn (n := 1) [("node", .int i tk), ("self", .ref T.x)] G hA (by k_is) (by k_is) (fun _ _ => BindsTo.of_eq rfl) (locs rfl) ?_ (by rfl) (by rfl) (by rfl) (by decide)
  intro L s env c hA G
  obtain ⟨v, hv, hR⟩ := hT.rows.get hr
  have k1 := tg1 hg
  have k2 := tg2 hg
  have k4 := rg1 hg hv
  have k5 := rg2 hg hv
  have kh := hR.loc.handed
  walk_at "ms"
  walk_at "mmeth"
  walk_at "ms"
  refine w_callPure _ (fun g' h1 _ => row_ok G hA hT (hg.mono h1) hv) ?_
  rintro _ rfl
  walk_at "mget"
  exact hR.loc

theorem value_ok (G : Gnd (hk.heap_1 P) O mg mb) (hA : Amb A 2) (hT : TreeIs T t) (hg : inG g (treeLed T)) (hr : t[i]? = some nr) : Calls prog w O A (.ref 298) [.ref T.x, .int i tk] g [] (fun u _ => SV nr.value u) := by
  refine Calls.fn (n := 1) [("node", .int i tk), ("self", .ref T.x)] G hA (by k_is) (by k_is) (fun _ _ => BindsTo.of_eq rfl) (locs rfl) ?_ (by rfl) (by rfl) (by rfl) (by decide)
  intro L s env c hA G
  obtain ⟨v, hv, hR⟩ := hT.rows.get hr
  have k1 := tg1 hg
  have k2 := tg2 hg
  have k4 := rg1 hg hv
  have k5 := rg2 hg hv
  have kh := hR.value.handed
  walk_at "ms"
  walk_at "mmeth"
  walk_at "ms"
  refine w_callPure _ (fun g' h1 _ => row_ok G hA hT (hg.mono h1) hv) ?_
  rintro _ rfl
  walk_at "mget"
  exact hR.value

theorem parent_ok (G : Gnd (hk.heap_1 P) O mg mb) (hA : Amb A 2) (hT : TreeIs T t) (hg : inG g (treeLed T)) (hr : t[i]? = some nr) : Calls prog w O A (.ref 305) [.ref T.x, .int i tk] g [] (fun u _ => PV nr.parent u) := by
  refine Calls.fn (n := 1) [("node", .int i tk), ("self", .ref T.x)] G hA (by k_is) (by k_is) (fun _ _ => BindsTo.of_eq rfl) (locs rfl) ?_ (by rfl) (by rfl) (by rfl) (by decide)
  intro L s env c hA G
  obtain ⟨v, hv, hR⟩ := hT.rows.get hr
  have k1 := tg1 hg
  have k2 := tg2 hg
  have k4 := rg1 hg hv
  have k5 := rg2 hg hv
  have kh := hR.parent.handed
  walk_at "ms"
  walk_at "mmeth"
  walk_at "ms"
  refine w_callPure _ (fun g' h1 _ => row_ok G hA hT (hg.mono h1) hv) ?_
  rintro _ rfl
  walk_at "mget"
  exact hR.parent

theorem children_ok (G : Gnd (hk.heap_1 P) O mg mb) (hA : Amb A 2) (hT : TreeIs T t) (hg : inG g (treeLed T)) (hr : t[i]? = some nr) : Calls prog w O A (.ref 312) [.ref T.x, .int i tk] g [] (fun u mu => ∃ a vs, u = .ref a ∧ mu = [(a, .lst vs)] ∧ Each NV' nr.ch vs) := by
  refine Calls.fn (n := 1) [("node", .int i tk), ("self", .ref T.x)] G hA (by k_is) (by k_is) (fun _ _ => BindsTo.of_eq rfl) (locs rfl) ?_ (by rfl) (by rfl) (by rfl) (by decide)
  intro L s env c hA G
  obtain ⟨v, hv, hR⟩ := hT.rows.get hr
  have k1 := tg1 hg
  have k2 := tg2 hg
  have k4 := rg1 hg hv
  have k5 := rg2 hg hv
  have k6 := rg3 hg hv
  have hz : v.cs.length ≤ sizeLine := by have := hR.ch.len; have := hR.small.1; rw [sizeLine_eq]; omega
  walk_at "ms"
  walk_at "mmeth"
  walk_at "ms"
  refine w_callPure _ (fun g' h1 _ => row_ok G hA hT (hg.mono h1) hv) ?_
  rintro _ rfl
  walk_at "mget"
  walk_at "ms"
  refine w_listOf (.inl (.inl k6)) hz fun b => ?_
  exact ⟨b, v.cs, rfl, rfl, hR.ch⟩

theorem attributes_ok (G : Gnd (hk.heap_1 P) O mg mb) (hA : Amb A 2) (hT : TreeIs T t) (hg : inG g (treeLed T)) (hr : t[i]? = some nr) : Calls prog w O A (.ref 319) [.ref T.x, .int i tk] g [] (fun u mu => ∃ a vs, u = .ref a ∧ mu = [(a, .lst vs)] ∧ Each NV' nr.ats vs) := by
  refine Calls.fn (n := 1) [("node", .int i tk), ("self", .ref T.x)] G hA (by k_is) (by k_is) (fun _ _ => BindsTo.of_eq rfl) (locs rfl) ?_ (by rfl) (by rfl) (by rfl) (by decide)
  intro L s env c hA G
  obtain ⟨v, hv, hR⟩ := hT.rows.get hr
  have k1 := tg1 hg
  have k2 := tg2 hg
  have k4 := rg1 hg hv
  have k5 := rg2 hg hv
  have k6 := rg4 hg hv
  have hz : v.as.length ≤ sizeLine := by have := hR.ats.len; have := hR.small.2.1; rw [sizeLine_eq]; omega
  walk_at "ms"
  walk_at "mmeth"
  walk_at "ms"
  refine w_callPure _ (fun g' h1 _ => row_ok G hA hT (hg.mono h1) hv) ?_
  rintro _ rfl
  walk_at "mget"
  walk_at "ms"
  refine w_listOf (.inl (.inl k6)) hz fun b => ?_
  exact ⟨b, v.as, rfl, rfl, hR.ats⟩

theorem namespaces_ok (G : Gnd (hk.heap_1 P) O mg mb) (hA : Amb A 2) (hT : TreeIs T t) (hg : inG g (treeLed T)) (hr : t[i]? = some nr) : Calls prog w O A (.ref 326) [.ref T.x, .int i tk] g [] (fun u mu => ∃ a vs, u = .ref a ∧ mu = [(a, .lst vs)] ∧ Each NV' nr.nss vs) := by
  refine Calls.fn (n := 1) [("node", .int i tk), ("self", .ref T.x)] G hA (by k_is) (by k_is) (fun _ _ => BindsTo.of_eq rfl) (locs rfl) ?_ (by rfl) (by rfl) (by rfl) (by decide)
  intro L s env c hA G
  obtain ⟨v, hv, hR⟩ := hT.rows.get hr
  have k1 := tg1 hg
  have k2 := tg2 hg
  have k4 := rg1 hg hv
  have k5 := rg2 hg hv
  have k6 := rg5 hg hv
  have hz : v.ns.length ≤ sizeLine := by have := hR.nss.len; have := hR.small.2.2; rw [sizeLine_eq]; omega
  walk_at "ms"
  walk_at "mmeth"
  walk_at "ms"
  refine w_callPure _ (fun g' h1 _ => row_ok G hA hT (hg.mono h1) hv) ?_
  rintro _ rfl
  walk_at "mget"
  walk_at "ms"
  refine w_listOf (.inl (.inl k6)) hz fun b => ?_
  exact ⟨b, v.ns, rfl, rfl, hR.nss⟩
end
end Mine
end -- F1

section -- F2
open PySem PySem.W PySem.Calls PyProof.Rows PySem.Builtin
namespace Mine
section
variable {prog : Program} {w : World} {O : Heap} {A : Around} {P : Params} {mg mb : Str → Option Value} {g : Kn}

noncomputable def repl (x : Str) (ps : List (Str × Str)) : Str := ps.foldl (fun x p => Txt.replace x p.1 p.2) x
noncomputable def ROk (x : Str) : List (Str × Str) → Bool
  | [] => true
  | p :: ps => (!(p.1 == p.2)) && decide (x.length + (x.length + 1) * p.2.length ≤ 16777216) && ROk (Txt.replace x p.1 p.2) ps
theorem ROk_at : ∀ {ps : List (Str × Str)} {x : Str} {i : Nat} {p : Str × Str}, ROk x ps = true → ps[i]? = some p → (p.1 == p.2) = false ∧ (repl x (ps.take i)).length + ((repl x (ps.take i)).length + 1) * p.2.length ≤ 16777216
  | [], _, _, _, _, e => by simp at e
  | q :: ps, x, 0, p, h, e => by
    simp at e
    subst e
    unfold ROk at h
    rw [Bool.and_eq_true, Bool.and_eq_true] at h
    exact ⟨by simpa using h.1.1, of_decide_eq_true h.1.2⟩
  | q :: ps, x, i + 1, p, h, e => by
    simp at e
    unfold ROk at h
    rw [Bool.and_eq_true] at h
    exact ROk_at (ps := ps) h.2 e
noncomputable def PairV (g : Kn) (p : Str × Str) (v : Value) : Prop := ∃ a t u, v = .ref a ∧ g a (.tup [.str p.1 t, .str p.2 u]) ∧ t ≠ 0 ∧ u ≠ 0 ∧ t ≠ u
theorem repl_take {x : Str} {ps : List (Str × Str)} {i : Nat} {p : Str × Str} (e : ps[i]? = some p) : repl x (ps.take (i + 1)) = Txt.replace (repl x (ps.take i)) p.1 p.2 := by
  rw [List.take_add_one, e]
  unfold repl
  rw [List.foldl_append]
  rfl

theorem replaced_ok (G : Gnd (hk.heap_1 P) O mg mb) (hA : Amb A 1) {x : Str} {t : Tok} {a : Addr} {vs : List Value} {ps : List (Str × Str)} (ha : g a (.tup vs)) (hp : Each (PairV g) ps vs) (hok : ROk x ps = true) :
    Calls prog w O A (.ref 74) [.str x t, .ref a] g [] (fun u _ => SV (repl x ps) u) := by
  refine Calls.fn (n := 0) [("pairs", .ref a), ("text", .str x t)] G hA (by k_is) (by k_is) (fun _ _ => BindsTo.of_eq rfl) (locs rfl) ?_ (by rfl) (by rfl) (by rfl) (by decide)
  intro L s env c hA G
  have hh : c.A.handled = none := hA.handled
  walk_at "ms"
  refine w_forSrc (src_tup hh ha fun _ => dr_tupT) ?J ?h0 ?turn ?fin
  case J => exact (fun i st => ∃ t, st.m "text" = some (.str (repl x (ps.take i)) t) ∧ st.mu = [])
  case h0 => exact ⟨t, by show ofBinds _ _ = some (Value.str x t); walk_at "mlk", rfl⟩
  · rintro i v ⟨m, mu⟩ g' hi hv ⟨t', ht, rfl⟩ hg
    refine hide ?_
    intro X_ k_
    first | (refine ex5 (hp.get' hv) ?_; rintro p hpi b t1 t2 hr_; first | (refine and5 hr_ ?_; clear hr_; rintro rfl hb n1 n2 n3) | (refine and4 hr_ ?_; clear hr_; rintro rfl hb n1 ⟨n2, n3⟩) | (refine and3 hr_ ?_; clear hr_; rintro rfl hb ⟨n1, n2, n3⟩) | obtain ⟨rfl, hb, n1, n2, n3⟩ := hr_) | (refine ex4 (hp.get' hv) ?_; rintro p hpi b t1 hr_; first | (refine and6 hr_ ?_; clear hr_; rintro t2 rfl hb n1 n2 n3) | (refine and5 hr_ ?_; clear hr_; rintro t2 rfl hb n1 ⟨n2, n3⟩) | (refine and4 hr_ ?_; clear hr_; rintro t2 rfl hb ⟨n1, n2, n3⟩) | (refine and3 hr_ ?_; clear hr_; rintro t2 rfl ⟨hb, n1, n2, n3⟩) | obtain ⟨t2, rfl, hb, n1, n2, n3⟩ := hr_) | (refine ex3 (hp.get' hv) ?_; rintro p hpi b hr_; first | (refine and7 hr_ ?_; clear hr_; rintro t1 t2 rfl hb n1 n2 n3) | (refine and6 hr_ ?_; clear hr_; rintro t1 t2 rfl hb n1 ⟨n2, n3⟩) | (refine and5 hr_ ?_; clear hr_; rintro t1 t2 rfl hb ⟨n1, n2, n3⟩) | (refine and4 hr_ ?_; clear hr_; rintro t1 t2 rfl ⟨hb, n1, n2, n3⟩) | (refine and3 hr_ ?_; clear hr_; rintro t1 t2 ⟨rfl, hb, n1, n2, n3⟩) | obtain ⟨t1, t2, rfl, hb, n1, n2, n3⟩ := hr_) | (refine ex2 (hp.get' hv) ?_; rintro p hpi hr_; first | (refine and8 hr_ ?_; clear hr_; rintro b t1 t2 rfl hb n1 n2 n3) | (refine and7 hr_ ?_; clear hr_; rintro b t1 t2 rfl hb n1 ⟨n2, n3⟩) | (refine and6 hr_ ?_; clear hr_; rintro b t1 t2 rfl hb ⟨n1, n2, n3⟩) | (refine and5 hr_ ?_; clear hr_; rintro b t1 t2 rfl ⟨hb, n1, n2, n3⟩) | (refine and4 hr_ ?_; clear hr_; rintro b t1 t2 ⟨rfl, hb, n1, n2, n3⟩) | (refine and3 hr_ ?_; clear hr_; rintro b t1 ⟨t2, rfl, hb, n1, n2, n3⟩) | obtain ⟨b, t1, t2, rfl, hb, n1, n2, n3⟩ := hr_) | (refine ex1 (hp.get' hv) ?_; rintro p hr_; first | (refine and9 hr_ ?_; clear hr_; rintro hpi b t1 t2 rfl hb n1 n2 n3) | (refine and8 hr_ ?_; clear hr_; rintro hpi b t1 t2 rfl hb n1 ⟨n2, n3⟩) | (refine and7 hr_ ?_; clear hr_; rintro hpi b t1 t2 rfl hb ⟨n1, n2, n3⟩) | (refine and6 hr_ ?_; clear hr_; rintro hpi b t1 t2 rfl ⟨hb, n1, n2, n3⟩) | (refine and5 hr_ ?_; clear hr_; rintro hpi b t1 t2 ⟨rfl, hb, n1, n2, n3⟩) | (refine and4 hr_ ?_; clear hr_; rintro hpi b t1 ⟨t2, rfl, hb, n1, n2, n3⟩) | (refine and3 hr_ ?_; clear hr_; rintro hpi b ⟨t1, t2, rfl, hb, n1, n2, n3⟩) | obtain ⟨hpi, b, t1, t2, rfl, hb, n1, n2, n3⟩ := hr_) | (first | (refine and10 (hp.get' hv) ?_; rintro p hpi b t1 t2 rfl hb n1 n2 n3) | (refine and9 (hp.get' hv) ?_; rintro p hpi b t1 t2 rfl hb n1 ⟨n2, n3⟩) | (refine and8 (hp.get' hv) ?_; rintro p hpi b t1 t2 rfl hb ⟨n1, n2, n3⟩) | (refine and7 (hp.get' hv) ?_; rintro p hpi b t1 t2 rfl ⟨hb, n1, n2, n3⟩) | (refine and6 (hp.get' hv) ?_; rintro p hpi b t1 t2 ⟨rfl, hb, n1, n2, n3⟩) | (refine and5 (hp.get' hv) ?_; rintro p hpi b t1 ⟨t2, rfl, hb, n1, n2, n3⟩) | (refine and4 (hp.get' hv) ?_; rintro p hpi b ⟨t1, t2, rfl, hb, n1, n2, n3⟩) | (refine and3 (hp.get' hv) ?_; rintro p hpi ⟨b, t1, t2, rfl, hb, n1, n2, n3⟩) | obtain ⟨p, hpi, b, t1, t2, rfl, hb, n1, n2, n3⟩ := (hp.get' hv))
    refine k_ ?_
    clear k_ X_
    obtain ⟨o1, o2⟩ := ROk_at hok hpi
    have hb' := hg _ _ hb
    dsimp only at ht
    walk_at "ms"
    refine w_replace n1 n2 n3 o1 o2 fun t'' => ?_
    walk_at "ms"
    exact ⟨t'', by rw [repl_take hpi]; dsimp only; exact over_here, rfl⟩
  · rintro ⟨m, mu⟩ ⟨t', ht, rfl⟩
    dsimp only at ht
    walk_at "ms"
    refine ⟨t', ?_⟩
    rw [← hp.len, List.take_length]
    rfl

noncomputable def textPairs : List (Str × Str) := [("&", "&amp;"), ("<", "&lt;"), (">", "&gt;"), ("\r", "&#xD;")]
noncomputable def valuePairs : List (Str × Str) := [("&", "&amp;"), ("<", "&lt;"), ("\"", "&quot;"), ("\t", "&#x9;"), ("\n", "&#xA;"), ("\r", "&#xD;")]
theorem ctext_ok (G : Gnd (hk.heap_1 P) O mg mb) (hA : Amb A 2) {x : Str} {t : Tok} (hok : ROk x textPairs = true) : Calls prog w O A (.ref 81) [.str x t] g [] (fun u _ => SV (repl x textPairs) u) := by
  refine Calls.fn (n := 1) [("value", .str x t)] G hA (by k_is) (by k_is) (fun _ _ => BindsTo.of_eq rfl) (locs rfl) ?_ (by rfl) (by rfl) (by rfl) (by decide)
  intro L s env c hA G
  walk_at "ms"
  refine w_callPure _ (fun g' h1 h2 => replaced_ok G hA.le (ps := textPairs) (h2 (_, _) (.head _)) ⟨?_, ?_, ?_, ?_, trivial⟩ hok) ?_
  · exact ⟨_, _, _, rfl, h2 (_, _) (by walk_at "mmemr"), by assumption, by assumption, by assumption⟩
  · exact ⟨_, _, _, rfl, h2 (_, _) (by walk_at "mmemr"), by assumption, by assumption, by assumption⟩
  · exact ⟨_, _, _, rfl, h2 (_, _) (by walk_at "mmemr"), by assumption, by assumption, by assumption⟩
  · exact ⟨_, _, _, rfl, h2 (_, _) (by walk_at "mmemr"), by assumption, by assumption, by assumption⟩
  · intro v hv
    exact hv
theorem cvalue_ok (G : Gnd (hk.heap_1 P) O mg mb) (hA : Amb A 2) {x : Str} {t : Tok} (hok : ROk x valuePairs = true) : Calls prog w O A (.ref 88) [.str x t] g [] (fun u _ => SV (repl x valuePairs) u) := by
  refine Calls.fn (n := 1) [("value", .str x t)] G hA (by k_is) (by k_is) (fun _ _ => BindsTo.of_eq rfl) (locs rfl) ?_ (by rfl) (by rfl) (by rfl) (by decide)
  intro L s env c hA G
  walk_at "ms"
  refine w_callPure _ (fun g' h1 h2 => replaced_ok G hA.le (ps := valuePairs) (h2 (_, _) (.head _)) ⟨?_, ?_, ?_, ?_, ?_, ?_, trivial⟩ hok) ?_
  · exact ⟨_, _, _, rfl, h2 (_, _) (by walk_at "mmemr"), by assumption, by assumption, by assumption⟩
  · exact ⟨_, _, _, rfl, h2 (_, _) (by walk_at "mmemr"), by assumption, by assumption, by assumption⟩
  · exact ⟨_, _, _, rfl, h2 (_, _) (by walk_at "mmemr"), by assumption, by assumption, by assumption⟩
  · exact ⟨_, _, _, rfl, h2 (_, _) (by walk_at "mmemr"), by assumption, by assumption, by assumption⟩
  · exact ⟨_, _, _, rfl, h2 (_, _) (by walk_at "mmemr"), by assumption, by assumption, by assumption⟩
  · exact ⟨_, _, _, rfl, h2 (_, _) (by walk_at "mmemr"), by assumption, by assumption, by assumption⟩
  · intro v hv
    exact hv
end
end Mine
end -- F2

section -- F3
open PySem PySem.W PySem.Calls PyProof.Rows PySem.Builtin
namespace Mine
section
variable {prog : Program} {w : World} {O : Heap} {A : Around} {P : Params} {mg mb : Str → Option Value} {g : Kn}

noncomputable def wordL : List Str := ["", "a", "<&>", "\"", "\t\n\r", "'"]
theorem words_ok (G : Gnd (hk.heap_1 P) O mg mb) (hA : Amb A 1) : Calls prog w O A (.ref 382) [] g [] (fun u mu => ∃ b vs, u = .ref b ∧ mu = [(b, .lst vs)] ∧ Each SV wordL vs) := by
  refine Calls.fn (n := 0) [] G hA (by k_is) (by k_is) (fun _ _ => BindsTo.of_eq rfl) (locs rfl) ?_ (by rfl) (by rfl) (by rfl) (by decide)
  intro L s env c hA G
  walk_at "ms"
  exact ⟨_, _, rfl, rfl, ⟨_, rfl⟩, ⟨_, rfl⟩, ⟨_, rfl⟩, ⟨_, rfl⟩, ⟨_, rfl⟩, ⟨_, rfl⟩, trivial⟩

noncomputable def uriKvs (t1 t2 t3 t4 : Tok) : List (Str × Value) := [("", .str "" t1), ("p", .str "u:3" t2), ("q", .str "u:1" t3), ("r", .str "u:2" t4)]
theorem uris_ok (G : Gnd (hk.heap_1 P) O mg mb) (hA : Amb A 1) : Calls prog w O A (.ref 375) [] g [] (fun u mu => ∃ b t1 t2 t3 t4, u = .ref b ∧ mu = [(b, .dct (uriKvs t1 t2 t3 t4))]) := by
  refine Calls.fn (n := 0) [] G hA (by k_is) (by k_is) (fun _ _ => BindsTo.of_eq rfl) (locs rfl) ?_ (by rfl) (by rfl) (by rfl) (by decide)
  intro L s env c hA G
  walk_at "ms"
  walk_at "mdict"
  intro D
  walk_at "ms"
  rename_i t1 t2 t3 t4 t5 t6 t7 t8
  refine ⟨uriKvs t2 t4 t6 t8, [], ⟨⟨_, rfl⟩, rfl, ⟨_, rfl⟩, rfl, ⟨_, rfl⟩, rfl, ⟨_, rfl⟩, rfl, trivial⟩, rfl, ?_⟩
  refine ⟨D, t2, t4, t6, t8, rfl, ?_⟩
  show [(D, Sh.dct (merged [] (uriKvs t2 t4 t6 t8)))] = _
  rw [merged_nil_of_nodup]
  show ([Str.ofString "", Str.ofString "p", Str.ofString "q", Str.ofString "r"] : List Str).Nodup
  decide +kernel

theorem nv_of {z : Int} {t : Tok} (h : 0 ≤ z) : NV' z.toNat (.int z t) := ⟨t, by rw [Int.toNat_of_nonneg h]⟩
/-- the source of figures -/
noncomputable def SrcLed (sr : Addr) (mu : Led) : Prop := ∃ (a b : Int) (t u : Tok), mu = [(sr, .seq [.int a t, .int b u])] ∧ 0 ≤ b ∧ b < 2147483647
theorem next_ok (G : Gnd (hk.heap_1 P) O mg mb) (hA : Amb A 1) {sr : Addr} {mu : Led} {top : Nat} {t : Tok} (h1 : 1 ≤ top) (h2 : top ≤ 1000) (hs : SrcLed sr mu) :
    Calls prog w O A (.ref 368) [.ref sr, .int top t] g mu (fun v mu' => (∃ r : Nat, r < top ∧ NV' r v) ∧ SrcLed sr mu') := by
  refine hide ?_
  intro X_ k_
  first | (refine ex4 hs ?_; clear hs; rintro a b ta tb hr_; first | (refine and3 hr_ ?_; clear hr_; rintro rfl hb0 hb1) | obtain ⟨rfl, hb0, hb1⟩ := hr_) | (refine ex3 hs ?_; clear hs; rintro a b ta hr_; first | (refine and4 hr_ ?_; clear hr_; rintro tb rfl hb0 hb1) | (refine and3 hr_ ?_; clear hr_; rintro tb rfl ⟨hb0, hb1⟩) | obtain ⟨tb, rfl, hb0, hb1⟩ := hr_) | (refine ex2 hs ?_; clear hs; rintro a b hr_; first | (refine and5 hr_ ?_; clear hr_; rintro ta tb rfl hb0 hb1) | (refine and4 hr_ ?_; clear hr_; rintro ta tb rfl ⟨hb0, hb1⟩) | (refine and3 hr_ ?_; clear hr_; rintro ta tb ⟨rfl, hb0, hb1⟩) | obtain ⟨ta, tb, rfl, hb0, hb1⟩ := hr_) | (refine ex1 hs ?_; clear hs; rintro a hr_; first | (refine and6 hr_ ?_; clear hr_; rintro b ta tb rfl hb0 hb1) | (refine and5 hr_ ?_; clear hr_; rintro b ta tb rfl ⟨hb0, hb1⟩) | (refine and4 hr_ ?_; clear hr_; rintro b ta tb ⟨rfl, hb0, hb1⟩) | (refine and3 hr_ ?_; clear hr_; rintro b ta ⟨tb, rfl, hb0, hb1⟩) | obtain ⟨b, ta, tb, rfl, hb0, hb1⟩ := hr_) | (first | (refine and7 hs ?_; clear hs; rintro a b ta tb rfl hb0 hb1) | (refine and6 hs ?_; clear hs; rintro a b ta tb rfl ⟨hb0, hb1⟩) | (refine and5 hs ?_; clear hs; rintro a b ta tb ⟨rfl, hb0, hb1⟩) | (refine and4 hs ?_; clear hs; rintro a b ta ⟨tb, rfl, hb0, hb1⟩) | (refine and3 hs ?_; clear hs; rintro a b ⟨ta, tb, rfl, hb0, hb1⟩) | obtain ⟨a, b, ta, tb, rfl, hb0, hb1⟩ := hs)
  refine k_ ?_
  clear k_ X_
  refine Calls.fn (n := 0) [("top", .int top t), ("source", .ref sr)] G hA (by k_is) (by k_is) (fun _ _ => BindsTo.of_eq rfl) (locs rfl) ?_ (by rfl) (by rfl) (by rfl) (by decide)
  intro L s env c hA G
  have hz : ∀ x y : Value, [x, y].length ≤ sizeLine := fun x y => by rw [sizeLine_eq]; show (2 : Nat) ≤ _; decide
  have ht0 : (top : Int) ≠ 0 := by omega
  have hts : (top : Int).natAbs < 1073741824 := by omega
  have htp : (0 : Int) < top := by omega
  walk_at "ms"
  refine w_itemSeq (.inr (.head _)) (by decide) rfl (hz _ _) ?_ sub_int
  walk_at "ms"
  refine Br.of (fun hgt => ?_) (fun hgt => ?_)
  · walk_at "ms"
    refine w_itemSeq (.inr (.head _)) (by decide) rfl (hz _ _) ?_ sub_int
    walk_at "ms"
    refine w_modInt ht0 fun _ => ?_
    walk_at "ms"
    refine w_itemSeq (.inr (.head _)) (by decide) rfl (hz _ _) ?_ sub_int
    walk_at "ms"
    refine w_divInt ht0 hts fun _ => ?_
    walk_at "ms"
    refine w_setSeq Up.head (by decide) (by simp) (hz _ _) ?_
    walk_at "ms"
    refine ⟨⟨(a.fmod top).toNat, ?_, nv_of (Int.fmod_nonneg_of_pos a htp)⟩, _, b, _, tb, rfl, hb0, hb1⟩
    have e := Int.fmod_lt_of_pos a htp
    have e0 := Int.fmod_nonneg_of_pos a htp
    omega
  · walk_at "ms"
    refine w_itemSeq (.inr (.head _)) (by decide) rfl (hz _ _) ?_ sub_int
    walk_at "ms"
    refine w_mulInt (fun _ => ?_) (IntMulOk.of_right (PySem.intBits_le_64 (by decide) (by decide)))
    walk_at "ms"
    refine w_modInt (by decide) fun _ => ?_
    walk_at "ms"
    refine w_setSeq Up.head (by decide) (by simp) (hz _ _) ?_
    have e1 := Int.fmod_lt_of_pos (b * 39373 + 7) (b := 2147483647) (by decide)
    have e0 := Int.fmod_nonneg_of_pos (b * 39373 + 7) (b := 2147483647) (by decide)
    generalize (b * 39373 + 7).fmod 2147483647 = y at e0 e1 ⊢
    walk_at "ms"
    refine w_itemSeq (.inr (.head _)) (by decide) rfl (hz _ _) ?_ sub_int
    walk_at "ms"
    refine w_itemSeq (.inr (.head _)) (by decide) rfl (hz _ _) ?_ sub_int
    walk_at "ms"
    refine w_mulInt (fun _ => ?_) (IntMulOk.of_right (PySem.intBits_le_64 (by omega) (by omega)))
    walk_at "ms"
    refine w_modInt (by decide) fun _ => ?_
    walk_at "ms"
    refine w_divInt (by decide) (by decide) fun _ => ?_
    walk_at "ms"
    refine w_modInt ht0 fun _ => ?_
    walk_at "ms"
    generalize ((y * y).fmod 2147483629).fdiv 32 = q
    refine ⟨⟨(q.fmod top).toNat, ?_, nv_of (Int.fmod_nonneg_of_pos q htp)⟩, a, y, ta, _, rfl, e0, e1⟩
    have e := Int.fmod_lt_of_pos q htp
    have e0 := Int.fmod_nonneg_of_pos q htp
    omega
end
end Mine
end -- F3

section -- F4
open PySem PySem.W PySem.Calls PyProof.Rows PySem.Builtin
namespace Mine
section
variable {prog : Program} {w : World} {O : Heap} {A : Around} {P : Params} {mg mb : Str → Option Value} {g : Kn}

theorem source_ok (G : Gnd (hk.heap_1 P) O mg mb) (hA : Amb A 2) {sc : Addr} {vs : List Value} {ns : List Int} (hg : g sc (.seq vs)) (hi : IntsAre vs ns) (hz : vs.length ≤ 1000) :
    Calls prog w O A (.ref 361) [.ref sc] g [] (fun v mu' => ∃ (sr : Addr) (a b : Int) (t u : Tok), v = .ref sr ∧ mu' = [(sr, .lst [.int a t, .int b u])] ∧ 0 ≤ b ∧ b < 2147483647) := by
  refine Calls.fn (n := 1) [("script", .ref sc)] G hA (by k_is) (by k_is) (fun _ _ => BindsTo.of_eq rfl) (locs rfl) ?_ (by rfl) (by rfl) (by rfl) (by decide)
  intro L s env c hA G
  have hh : c.A.handled = none := hA.handled
  refine w_seq (w_assign (W.mono (Q := fun v st₁ => (∃ i t, v = .int i t) ∧ st₁ = ⟨ofBinds [("script", .ref sc)], []⟩) ?_ ?_))
  · walk_at "ms"
    refine w_neNil (a := sc) hA (.inr (.inl hg)) (.inr (.head _)) ?_
    refine w_sub [] (List.sublist_cons_self _ _) ?_
    walk_at "ms"
    refine Br.of (fun he => ?_) (fun he => ?_)
    · cases hi with
      | nil => cases he
      | cons n t r =>
        have hz' := Nat.le_trans hz (show (1000 : Nat) ≤ sizeLine by rw [sizeLine_eq]; decide)
        walk_at "ms"
        refine w_itemSeq (.inl hg) (by decide) rfl hz' ?_ sub_int
        walk_at "ms"
        refine w_itemSeq (.inl hg) (by decide) rfl hz' ?_ sub_int
        walk_at "ms"
        refine w_max hh fun _ => ?_
        exact ⟨⟨_, _, rfl⟩, rfl⟩
    · walk_at "ms"
      exact ⟨⟨_, _, rfl⟩, rfl⟩
  · rintro _ _ h_2
    refine hide ?_
    intro X_ k_
    first | obtain ⟨⟨bulk, t, rfl⟩, rfl⟩ := h_2
    refine k_ ?_
    clear k_ X_
    walk_at "ms"
    refine w_powInt (by decide) (by decide) fun _ => ?_
    walk_at "ms"
    refine Br.of (fun he => ?_) (fun he => ?_) <;>
    · walk_at "ms"
      refine w_modInt (by decide) fun _ => ?_
      walk_at "ms"
      refine w_mulInt (fun _ => ?_) (IntMulOk.of_right (PySem.intBits_le_64 (by decide) (by decide)))
      walk_at "ms"
      refine w_modInt (by decide) fun _ => ?_
      walk_at "ms"
      exact ⟨_, _, _, _, _, rfl, rfl, Int.fmod_nonneg_of_pos _ (by decide), Int.fmod_lt_of_pos _ (by decide)⟩

end
end Mine
end -- F4

section -- F5
open PySem PySem.W PySem.Calls PyProof.Rows PySem.Builtin
namespace Mine
section
variable {prog : Program} {w : World} {O : Heap} {A : Around} {P : Params} {mg mb : Str → Option Value} {g : Kn}
/-- some of the things, drawn without putting back -/
theorem drawn_ok {α : Type} {R : α → Value → Prop} (G : Gnd (hk.heap_1 P) O mg mb) (hA : Amb A 2) {sr th : Addr} {mu : Led} {xs : List α} {vs : List Value} (hs : SrcLed sr mu) (hg : g th (.lst vs)) (hx : Each R xs vs) (hz : xs.length ≤ 100) :
    Calls prog w O A (.ref 389) [.ref sr, .ref th] g mu (fun v mu' => ∃ b fs ys zs mu₁, v = .ref b ∧ mu' = (b, .lst fs) :: mu₁ ∧ SrcLed sr mu₁ ∧ Each R ys fs ∧ (ys ++ zs).Perm xs) := by
  refine Calls.fn (n := 1) [("things", .ref th), ("source", .ref sr)] G hA (by k_is) (by k_is) (fun _ _ => BindsTo.of_eq rfl) (locs rfl) ?_ (by rfl) (by rfl) (by rfl) (by decide)
  intro L s env c hA G
  have hh : c.A.handled = none := hA.handled
  have hlen := hx.len
  have hz' : vs.length ≤ sizeLine := by rw [sizeLine_eq]; omega
  refine w_seq (w_assignSwap (names := ["left", "found"]) ?_ (by rfl) (by rfl))
  walk_at "ms"
  refine w_listOf (.inl (.inl hg)) hz' fun _ => ?_
  walk_at "ms"
  rename_i l f T
  refine w_drop ((f, .lst []) :: (l, .lst vs) :: mu) (List.sublist_cons_self _ _) ?_
  refine w_turn (mu ++ [(f, .lst []), (l, .lst vs)]) (List.perm_append_comm (l₁ := [(f, Sh.lst []), (l, Sh.lst vs)])) ?_
  refine w_lenLst (.inl hg) hz' fun _ => ?_
  walk_at "ms"
  refine w_call _ (fun g' h1 h2 => next_ok G hA.le (top := vs.length + 1) (by omega) (by omega) hs) ?_
  rintro _ mu₁ h_2
  refine hide ?_
  intro X_ k_
  first | obtain ⟨⟨r, hr, tr, rfl⟩, hs₁⟩ := h_2
  refine k_ ?_
  clear k_ X_
  walk_at "ms"
  refine w_range1 fun rg t1 t2 t3 => ?_
  refine w_freeze (fr := [(rg, .obj (rangeObj r t1 t2 t3))]) ?_
  refine w_forSrc (src_range hh (.inr (.head _)) (by omega)) (fun i st => ∃ mu₁ F L ys zs, SrcLed sr mu₁ ∧ st.mu = mu₁ ++ [(f, .lst F), (l, .lst L)] ∧ Each R ys F ∧ Each R zs L ∧ (ys ++ zs).Perm xs ∧ ys.length = i ∧
    st.m "left" = some (.ref l) ∧ st.m "found" = some (.ref f) ∧ st.m "source" = some (.ref sr)) ?h0 ?turn ?fin
  case h0 =>
    refine ⟨mu₁, [], vs, [], xs, hs₁, rfl, trivial, hx, List.Perm.refl _, rfl, ?_, ?_, ?_⟩
    · walk_at "ml0"
    · walk_at "ml0"
    · walk_at "ml0"
  case turn =>
    rintro i v ⟨m, mu₂⟩ g' hi ⟨tv, rfl⟩ h_6 hg'
    refine hide ?_
    intro X_ k_
    first | (refine ex12 h_6 ?_; clear h_6; rintro mu₁ F L ys zs hs hmu hF hL hp hn m1 hr_; first | obtain ⟨m2, m3⟩ := hr_) | (refine ex11 h_6 ?_; clear h_6; rintro mu₁ F L ys zs hs hmu hF hL hp hn hr_; first | (refine and3 hr_ ?_; clear hr_; rintro m1 m2 m3) | obtain ⟨m1, m2, m3⟩ := hr_) | (refine ex10 h_6 ?_; clear h_6; rintro mu₁ F L ys zs hs hmu hF hL hp hr_; first | (refine and4 hr_ ?_; clear hr_; rintro hn m1 m2 m3) | (refine and3 hr_ ?_; clear hr_; rintro hn m1 ⟨m2, m3⟩) | obtain ⟨hn, m1, m2, m3⟩ := hr_) | (refine ex9 h_6 ?_; clear h_6; rintro mu₁ F L ys zs hs hmu hF hL hr_; first | (refine and5 hr_ ?_; clear hr_; rintro hp hn m1 m2 m3) | (refine and4 hr_ ?_; clear hr_; rintro hp hn m1 ⟨m2, m3⟩) | (refine and3 hr_ ?_; clear hr_; rintro hp hn ⟨m1, m2, m3⟩) | obtain ⟨hp, hn, m1, m2, m3⟩ := hr_) | (refine ex8 h_6 ?_; clear h_6; rintro mu₁ F L ys zs hs hmu hF hr_; first | (refine and6 hr_ ?_; clear hr_; rintro hL hp hn m1 m2 m3) | (refine and5 hr_ ?_; clear hr_; rintro hL hp hn m1 ⟨m2, m3⟩) | (refine and4 hr_ ?_; clear hr_; rintro hL hp hn ⟨m1, m2, m3⟩) | (refine and3 hr_ ?_; clear hr_; rintro hL hp ⟨hn, m1, m2, m3⟩) | obtain ⟨hL, hp, hn, m1, m2, m3⟩ := hr_) | (refine ex7 h_6 ?_; clear h_6; rintro mu₁ F L ys zs hs hmu hr_; first | (refine and7 hr_ ?_; clear hr_; rintro hF hL hp hn m1 m2 m3) | (refine and6 hr_ ?_; clear hr_; rintro hF hL hp hn m1 ⟨m2, m3⟩) | (refine and5 hr_ ?_; clear hr_; rintro hF hL hp hn ⟨m1, m2, m3⟩) | (refine and4 hr_ ?_; clear hr_; rintro hF hL hp ⟨hn, m1, m2, m3⟩) | (refine and3 hr_ ?_; clear hr_; rintro hF hL ⟨hp, hn, m1, m2, m3⟩) | obtain ⟨hF, hL, hp, hn, m1, m2, m3⟩ := hr_) | (refine ex6 h_6 ?_; clear h_6; rintro mu₁ F L ys zs hs hr_; first | (refine and8 hr_ ?_; clear hr_; rintro hmu hF hL hp hn m1 m2 m3) | (refine and7 hr_ ?_; clear hr_; rintro hmu hF hL hp hn m1 ⟨m2, m3⟩) | (refine and6 hr_ ?_; clear hr_; rintro hmu hF hL hp hn ⟨m1, m2, m3⟩) | (refine and5 hr_ ?_; clear hr_; rintro hmu hF hL hp ⟨hn, m1, m2, m3⟩) | (refine and4 hr_ ?_; clear hr_; rintro hmu hF hL ⟨hp, hn, m1, m2, m3⟩) | (refine and3 hr_ ?_; clear hr_; rintro hmu hF ⟨hL, hp, hn, m1, m2, m3⟩) | obtain ⟨hmu, hF, hL, hp, hn, m1, m2, m3⟩ := hr_) | (refine ex5 h_6 ?_; clear h_6; rintro mu₁ F L ys zs hr_; first | (refine and9 hr_ ?_; clear hr_; rintro hs hmu hF hL hp hn m1 m2 m3) | (refine and8 hr_ ?_; clear hr_; rintro hs hmu hF hL hp hn m1 ⟨m2, m3⟩) | (refine and7 hr_ ?_; clear hr_; rintro hs hmu hF hL hp hn ⟨m1, m2, m3⟩) | (refine and6 hr_ ?_; clear hr_; rintro hs hmu hF hL hp ⟨hn, m1, m2, m3⟩) | (refine and5 hr_ ?_; clear hr_; rintro hs hmu hF hL ⟨hp, hn, m1, m2, m3⟩) | (refine and4 hr_ ?_; clear hr_; rintro hs hmu hF ⟨hL, hp, hn, m1, m2, m3⟩) | (refine and3 hr_ ?_; clear hr_; rintro hs hmu ⟨hF, hL, hp, hn, m1, m2, m3⟩) | obtain ⟨hs, hmu, hF, hL, hp, hn, m1, m2, m3⟩ := hr_) | (refine ex4 h_6 ?_; clear h_6; rintro mu₁ F L ys hr_; first | (refine and10 hr_ ?_; clear hr_; rintro zs hs hmu hF hL hp hn m1 m2 m3) | (refine and9 hr_ ?_; clear hr_; rintro zs hs hmu hF hL hp hn m1 ⟨m2, m3⟩) | (refine and8 hr_ ?_; clear hr_; rintro zs hs hmu hF hL hp hn ⟨m1, m2, m3⟩) | (refine and7 hr_ ?_; clear hr_; rintro zs hs hmu hF hL hp ⟨hn, m1, m2, m3⟩) | (refine and6 hr_ ?_; clear hr_; rintro zs hs hmu hF hL ⟨hp, hn, m1, m2, m3⟩) | (refine and5 hr_ ?_; clear hr_; rintro zs hs hmu hF ⟨hL, hp, hn, m1, m2, m3⟩) | (refine and4 hr_ ?_; clear hr_; rintro zs hs hmu ⟨hF, hL, hp, hn, m1, m2, m3⟩) | (refine and3 hr_ ?_; clear hr_; rintro zs hs ⟨hmu, hF, hL, hp, hn, m1, m2, m3⟩) | obtain ⟨zs, hs, hmu, hF, hL, hp, hn, m1, m2, m3⟩ := hr_) | (refine ex3 h_6 ?_; clear h_6; rintro mu₁ F L hr_; first | (refine and11 hr_ ?_; clear hr_; rintro ys zs hs hmu hF hL hp hn m1 m2 m3) | (refine and10 hr_ ?_; clear hr_; rintro ys zs hs hmu hF hL hp hn m1 ⟨m2, m3⟩) | (refine and9 hr_ ?_; clear hr_; rintro ys zs hs hmu hF hL hp hn ⟨m1, m2, m3⟩) | (refine and8 hr_ ?_; clear hr_; rintro ys zs hs hmu hF hL hp ⟨hn, m1, m2, m3⟩) | (refine and7 hr_ ?_; clear hr_; rintro ys zs hs hmu hF hL ⟨hp, hn, m1, m2, m3⟩) | (refine and6 hr_ ?_; clear hr_; rintro ys zs hs hmu hF ⟨hL, hp, hn, m1, m2, m3⟩) | (refine and5 hr_ ?_; clear hr_; rintro ys zs hs hmu ⟨hF, hL, hp, hn, m1, m2, m3⟩) | (refine and4 hr_ ?_; clear hr_; rintro ys zs hs ⟨hmu, hF, hL, hp, hn, m1, m2, m3⟩) | (refine and3 hr_ ?_; clear hr_; rintro ys zs ⟨hs, hmu, hF, hL, hp, hn, m1, m2, m3⟩) | obtain ⟨ys, zs, hs, hmu, hF, hL, hp, hn, m1, m2, m3⟩ := hr_) | (refine ex2 h_6 ?_; clear h_6; rintro mu₁ F hr_; first | (refine and12 hr_ ?_; clear hr_; rintro L ys zs hs hmu hF hL hp hn m1 m2 m3) | (refine and11 hr_ ?_; clear hr_; rintro L ys zs hs hmu hF hL hp hn m1 ⟨m2, m3⟩) | (refine and10 hr_ ?_; clear hr_; rintro L ys zs hs hmu hF hL hp hn ⟨m1, m2, m3⟩) | (refine and9 hr_ ?_; clear hr_; rintro L ys zs hs hmu hF hL hp ⟨hn, m1, m2, m3⟩) | (refine and8 hr_ ?_; clear hr_; rintro L ys zs hs hmu hF hL ⟨hp, hn, m1, m2, m3⟩) | (refine and7 hr_ ?_; clear hr_; rintro L ys zs hs hmu hF ⟨hL, hp, hn, m1, m2, m3⟩) | (refine and6 hr_ ?_; clear hr_; rintro L ys zs hs hmu ⟨hF, hL, hp, hn, m1, m2, m3⟩) | (refine and5 hr_ ?_; clear hr_; rintro L ys zs hs ⟨hmu, hF, hL, hp, hn, m1, m2, m3⟩) | (refine and4 hr_ ?_; clear hr_; rintro L ys zs ⟨hs, hmu, hF, hL, hp, hn, m1, m2, m3⟩) | (refine and3 hr_ ?_; clear hr_; rintro L ys ⟨zs, hs, hmu, hF, hL, hp, hn, m1, m2, m3⟩) | obtain ⟨L, ys, zs, hs, hmu, hF, hL, hp, hn, m1, m2, m3⟩ := hr_) | (refine ex1 h_6 ?_; clear h_6; rintro mu₁ hr_; first | (refine and13 hr_ ?_; clear hr_; rintro F L ys zs hs hmu hF hL hp hn m1 m2 m3) | (refine and12 hr_ ?_; clear hr_; rintro F L ys zs hs hmu hF hL hp hn m1 ⟨m2, m3⟩) | (refine and11 hr_ ?_; clear hr_; rintro F L ys zs hs hmu hF hL hp hn ⟨m1, m2, m3⟩) | (refine and10 hr_ ?_; clear hr_; rintro F L ys zs hs hmu hF hL hp ⟨hn, m1, m2, m3⟩) | (refine and9 hr_ ?_; clear hr_; rintro F L ys zs hs hmu hF hL ⟨hp, hn, m1, m2, m3⟩) | (refine and8 hr_ ?_; clear hr_; rintro F L ys zs hs hmu hF ⟨hL, hp, hn, m1, m2, m3⟩) | (refine and7 hr_ ?_; clear hr_; rintro F L ys zs hs hmu ⟨hF, hL, hp, hn, m1, m2, m3⟩) | (refine and6 hr_ ?_; clear hr_; rintro F L ys zs hs ⟨hmu, hF, hL, hp, hn, m1, m2, m3⟩) | (refine and5 hr_ ?_; clear hr_; rintro F L ys zs ⟨hs, hmu, hF, hL, hp, hn, m1, m2, m3⟩) | (refine and4 hr_ ?_; clear hr_; rintro F L ys ⟨zs, hs, hmu, hF, hL, hp, hn, m1, m2, m3⟩) | (refine and3 hr_ ?_; clear hr_; rintro F L ⟨ys, zs, hs, hmu, hF, hL, hp, hn, m1, m2, m3⟩) | obtain ⟨F, L, ys, zs, hs, hmu, hF, hL, hp, hn, m1, m2, m3⟩ := hr_) | (first | (refine and14 h_6 ?_; clear h_6; rintro mu₁ F L ys zs hs hmu hF hL hp hn m1 m2 m3) | (refine and13 h_6 ?_; clear h_6; rintro mu₁ F L ys zs hs hmu hF hL hp hn m1 ⟨m2, m3⟩) | (refine and12 h_6 ?_; clear h_6; rintro mu₁ F L ys zs hs hmu hF hL hp hn ⟨m1, m2, m3⟩) | (refine and11 h_6 ?_; clear h_6; rintro mu₁ F L ys zs hs hmu hF hL hp ⟨hn, m1, m2, m3⟩) | (refine and10 h_6 ?_; clear h_6; rintro mu₁ F L ys zs hs hmu hF hL ⟨hp, hn, m1, m2, m3⟩) | (refine and9 h_6 ?_; clear h_6; rintro mu₁ F L ys zs hs hmu hF ⟨hL, hp, hn, m1, m2, m3⟩) | (refine and8 h_6 ?_; clear h_6; rintro mu₁ F L ys zs hs hmu ⟨hF, hL, hp, hn, m1, m2, m3⟩) | (refine and7 h_6 ?_; clear h_6; rintro mu₁ F L ys zs hs ⟨hmu, hF, hL, hp, hn, m1, m2, m3⟩) | (refine and6 h_6 ?_; clear h_6; rintro mu₁ F L ys zs ⟨hs, hmu, hF, hL, hp, hn, m1, m2, m3⟩) | (refine and5 h_6 ?_; clear h_6; rintro mu₁ F L ys ⟨zs, hs, hmu, hF, hL, hp, hn, m1, m2, m3⟩) | (refine and4 h_6 ?_; clear h_6; rintro mu₁ F L ⟨ys, zs, hs, hmu, hF, hL, hp, hn, m1, m2, m3⟩) | (refine and3 h_6 ?_; clear h_6; rintro mu₁ F ⟨L, ys, zs, hs, hmu, hF, hL, hp, hn, m1, m2, m3⟩) | obtain ⟨mu₁, F, L, ys, zs, hs, hmu, hF, hL, hp, hn, m1, m2, m3⟩ := h_6)
    refine k_ ?_
    clear k_ X_
    dsimp only at hmu m1 m2 m3
    subst hmu
    have hFl := hF.len
    have hLl := hL.len
    have hpl := hp.length_eq
    rw [List.length_append] at hpl
    have kF : (f, Sh.lst F) ∈ mu₁ ++ [(f, .lst F), (l, .lst L)] := List.mem_append_right _ (.head _)
    have kL : (l, Sh.lst L) ∈ mu₁ ++ [(f, .lst F), (l, .lst L)] := List.mem_append_right _ (.tail _ (.head _))
    walk_at "ms"
    refine m_list_append (.inr kF) ?_
    walk_at "ms"
    refine m_list_pop (.inr kL) ?_
    walk_at "ms"
    refine w_lenLst (.inr kL) (by rw [sizeLine_eq]; omega) fun _ => ?_
    walk_at "ms"
    refine w_call _ (fun g' h1 h2 => next_ok G hA.le (top := L.length) (by omega) (by omega) hs) ?_
    rintro _ mu₃ h_2
    refine hide ?_
    intro X_ k_
    first | obtain ⟨⟨j, hj, tj, rfl⟩, hs₃⟩ := h_2
    refine k_ ?_
    clear k_ X_
    walk_at "ms"
    refine hide ?_
    intro X_ k_
    first | (refine ex6 (hL.split hj) ?_; rintro zp z zr p y q hr_; first | (refine and6 hr_ ?_; clear hr_; rintro rfl rfl hj' e1 e2 e3) | (refine and5 hr_ ?_; clear hr_; rintro rfl rfl hj' e1 ⟨e2, e3⟩) | (refine and4 hr_ ?_; clear hr_; rintro rfl rfl hj' ⟨e1, e2, e3⟩) | (refine and3 hr_ ?_; clear hr_; rintro rfl rfl ⟨hj', e1, e2, e3⟩) | obtain ⟨rfl, rfl, hj', e1, e2, e3⟩ := hr_) | (refine ex5 (hL.split hj) ?_; rintro zp z zr p y hr_; first | (refine and7 hr_ ?_; clear hr_; rintro q rfl rfl hj' e1 e2 e3) | (refine and6 hr_ ?_; clear hr_; rintro q rfl rfl hj' e1 ⟨e2, e3⟩) | (refine and5 hr_ ?_; clear hr_; rintro q rfl rfl hj' ⟨e1, e2, e3⟩) | (refine and4 hr_ ?_; clear hr_; rintro q rfl rfl ⟨hj', e1, e2, e3⟩) | (refine and3 hr_ ?_; clear hr_; rintro q rfl ⟨rfl, hj', e1, e2, e3⟩) | obtain ⟨q, rfl, rfl, hj', e1, e2, e3⟩ := hr_) | (refine ex4 (hL.split hj) ?_; rintro zp z zr p hr_; first | (refine and8 hr_ ?_; clear hr_; rintro y q rfl rfl hj' e1 e2 e3) | (refine and7 hr_ ?_; clear hr_; rintro y q rfl rfl hj' e1 ⟨e2, e3⟩) | (refine and6 hr_ ?_; clear hr_; rintro y q rfl rfl hj' ⟨e1, e2, e3⟩) | (refine and5 hr_ ?_; clear hr_; rintro y q rfl rfl ⟨hj', e1, e2, e3⟩) | (refine and4 hr_ ?_; clear hr_; rintro y q rfl ⟨rfl, hj', e1, e2, e3⟩) | (refine and3 hr_ ?_; clear hr_; rintro y q ⟨rfl, rfl, hj', e1, e2, e3⟩) | obtain ⟨y, q, rfl, rfl, hj', e1, e2, e3⟩ := hr_) | (refine ex3 (hL.split hj) ?_; rintro zp z zr hr_; first | (refine and9 hr_ ?_; clear hr_; rintro p y q rfl rfl hj' e1 e2 e3) | (refine and8 hr_ ?_; clear hr_; rintro p y q rfl rfl hj' e1 ⟨e2, e3⟩) | (refine and7 hr_ ?_; clear hr_; rintro p y q rfl rfl hj' ⟨e1, e2, e3⟩) | (refine and6 hr_ ?_; clear hr_; rintro p y q rfl rfl ⟨hj', e1, e2, e3⟩) | (refine and5 hr_ ?_; clear hr_; rintro p y q rfl ⟨rfl, hj', e1, e2, e3⟩) | (refine and4 hr_ ?_; clear hr_; rintro p y q ⟨rfl, rfl, hj', e1, e2, e3⟩) | (refine and3 hr_ ?_; clear hr_; rintro p y ⟨q, rfl, rfl, hj', e1, e2, e3⟩) | obtain ⟨p, y, q, rfl, rfl, hj', e1, e2, e3⟩ := hr_) | (refine ex2 (hL.split hj) ?_; rintro zp z hr_; first | (refine and10 hr_ ?_; clear hr_; rintro zr p y q rfl rfl hj' e1 e2 e3) | (refine and9 hr_ ?_; clear hr_; rintro zr p y q rfl rfl hj' e1 ⟨e2, e3⟩) | (refine and8 hr_ ?_; clear hr_; rintro zr p y q rfl rfl hj' ⟨e1, e2, e3⟩) | (refine and7 hr_ ?_; clear hr_; rintro zr p y q rfl rfl ⟨hj', e1, e2, e3⟩) | (refine and6 hr_ ?_; clear hr_; rintro zr p y q rfl ⟨rfl, hj', e1, e2, e3⟩) | (refine and5 hr_ ?_; clear hr_; rintro zr p y q ⟨rfl, rfl, hj', e1, e2, e3⟩) | (refine and4 hr_ ?_; clear hr_; rintro zr p y ⟨q, rfl, rfl, hj', e1, e2, e3⟩) | (refine and3 hr_ ?_; clear hr_; rintro zr p ⟨y, q, rfl, rfl, hj', e1, e2, e3⟩) | obtain ⟨zr, p, y, q, rfl, rfl, hj', e1, e2, e3⟩ := hr_) | (refine ex1 (hL.split hj) ?_; rintro zp hr_; first | (refine and11 hr_ ?_; clear hr_; rintro z zr p y q rfl rfl hj' e1 e2 e3) | (refine and10 hr_ ?_; clear hr_; rintro z zr p y q rfl rfl hj' e1 ⟨e2, e3⟩) | (refine and9 hr_ ?_; clear hr_; rintro z zr p y q rfl rfl hj' ⟨e1, e2, e3⟩) | (refine and8 hr_ ?_; clear hr_; rintro z zr p y q rfl rfl ⟨hj', e1, e2, e3⟩) | (refine and7 hr_ ?_; clear hr_; rintro z zr p y q rfl ⟨rfl, hj', e1, e2, e3⟩) | (refine and6 hr_ ?_; clear hr_; rintro z zr p y q ⟨rfl, rfl, hj', e1, e2, e3⟩) | (refine and5 hr_ ?_; clear hr_; rintro z zr p y ⟨q, rfl, rfl, hj', e1, e2, e3⟩) | (refine and4 hr_ ?_; clear hr_; rintro z zr p ⟨y, q, rfl, rfl, hj', e1, e2, e3⟩) | (refine and3 hr_ ?_; clear hr_; rintro z zr ⟨p, y, q, rfl, rfl, hj', e1, e2, e3⟩) | obtain ⟨z, zr, p, y, q, rfl, rfl, hj', e1, e2, e3⟩ := hr_) | (first | (refine and12 (hL.split hj) ?_; rintro zp z zr p y q rfl rfl hj' e1 e2 e3) | (refine and11 (hL.split hj) ?_; rintro zp z zr p y q rfl rfl hj' e1 ⟨e2, e3⟩) | (refine and10 (hL.split hj) ?_; rintro zp z zr p y q rfl rfl hj' ⟨e1, e2, e3⟩) | (refine and9 (hL.split hj) ?_; rintro zp z zr p y q rfl rfl ⟨hj', e1, e2, e3⟩) | (refine and8 (hL.split hj) ?_; rintro zp z zr p y q rfl ⟨rfl, hj', e1, e2, e3⟩) | (refine and7 (hL.split hj) ?_; rintro zp z zr p y q ⟨rfl, rfl, hj', e1, e2, e3⟩) | (refine and6 (hL.split hj) ?_; rintro zp z zr p y ⟨q, rfl, rfl, hj', e1, e2, e3⟩) | (refine and5 (hL.split hj) ?_; rintro zp z zr p ⟨y, q, rfl, rfl, hj', e1, e2, e3⟩) | (refine and4 (hL.split hj) ?_; rintro zp z zr ⟨p, y, q, rfl, rfl, hj', e1, e2, e3⟩) | (refine and3 (hL.split hj) ?_; rintro zp z ⟨zr, p, y, q, rfl, rfl, hj', e1, e2, e3⟩) | obtain ⟨zp, z, zr, p, y, q, rfl, rfl, hj', e1, e2, e3⟩ := (hL.split hj))
    refine k_ ?_
    clear k_ X_
    refine w_popAt (p := p) (r := q) (y := y) ((Up.tail Up.head).appR mu₃) (by rw [hj']) (by rw [sizeLine_eq]; omega) ?_
    walk_at "ms"
    refine w_append (Up.head.appR mu₃) (by rw [sizeLine_eq]; omega) ?_
    walk_at "ms"
    refine ⟨mu₃, F ++ [y], p ++ q, ys ++ [z], zp ++ zr, hs₃, rfl, hF.snoc e2, e1.app e3, ?_, by rw [List.length_append, hn]; rfl, ?_, ?_, ?_⟩
    · refine List.Perm.trans ?_ hp
      rw [List.append_assoc, List.singleton_append]
      exact List.Perm.append_left ys List.perm_middle.symm
    · walk_at "ml0"
    · walk_at "ml0"
    · walk_at "ml0"
  case fin =>
    rintro ⟨m, mu₂⟩ h_1
    refine hide ?_
    intro X_ k_
    first | (refine ex12 h_1 ?_; clear h_1; rintro mu₁ F L ys zs hs hmu hF hL hp hn m1 hr_; first | obtain ⟨m2, m3⟩ := hr_) | (refine ex11 h_1 ?_; clear h_1; rintro mu₁ F L ys zs hs hmu hF hL hp hn hr_; first | (refine and3 hr_ ?_; clear hr_; rintro m1 m2 m3) | obtain ⟨m1, m2, m3⟩ := hr_) | (refine ex10 h_1 ?_; clear h_1; rintro mu₁ F L ys zs hs hmu hF hL hp hr_; first | (refine and4 hr_ ?_; clear hr_; rintro hn m1 m2 m3) | (refine and3 hr_ ?_; clear hr_; rintro hn m1 ⟨m2, m3⟩) | obtain ⟨hn, m1, m2, m3⟩ := hr_) | (refine ex9 h_1 ?_; clear h_1; rintro mu₁ F L ys zs hs hmu hF hL hr_; first | (refine and5 hr_ ?_; clear hr_; rintro hp hn m1 m2 m3) | (refine and4 hr_ ?_; clear hr_; rintro hp hn m1 ⟨m2, m3⟩) | (refine and3 hr_ ?_; clear hr_; rintro hp hn ⟨m1, m2, m3⟩) | obtain ⟨hp, hn, m1, m2, m3⟩ := hr_) | (refine ex8 h_1 ?_; clear h_1; rintro mu₁ F L ys zs hs hmu hF hr_; first | (refine and6 hr_ ?_; clear hr_; rintro hL hp hn m1 m2 m3) | (refine and5 hr_ ?_; clear hr_; rintro hL hp hn m1 ⟨m2, m3⟩) | (refine and4 hr_ ?_; clear hr_; rintro hL hp hn ⟨m1, m2, m3⟩) | (refine and3 hr_ ?_; clear hr_; rintro hL hp ⟨hn, m1, m2, m3⟩) | obtain ⟨hL, hp, hn, m1, m2, m3⟩ := hr_) | (refine ex7 h_1 ?_; clear h_1; rintro mu₁ F L ys zs hs hmu hr_; first | (refine and7 hr_ ?_; clear hr_; rintro hF hL hp hn m1 m2 m3) | (refine and6 hr_ ?_; clear hr_; rintro hF hL hp hn m1 ⟨m2, m3⟩) | (refine and5 hr_ ?_; clear hr_; rintro hF hL hp hn ⟨m1, m2, m3⟩) | (refine and4 hr_ ?_; clear hr_; rintro hF hL hp ⟨hn, m1, m2, m3⟩) | (refine and3 hr_ ?_; clear hr_; rintro hF hL ⟨hp, hn, m1, m2, m3⟩) | obtain ⟨hF, hL, hp, hn, m1, m2, m3⟩ := hr_) | (refine ex6 h_1 ?_; clear h_1; rintro mu₁ F L ys zs hs hr_; first | (refine and8 hr_ ?_; clear hr_; rintro hmu hF hL hp hn m1 m2 m3) | (refine and7 hr_ ?_; clear hr_; rintro hmu hF hL hp hn m1 ⟨m2, m3⟩) | (refine and6 hr_ ?_; clear hr_; rintro hmu hF hL hp hn ⟨m1, m2, m3⟩) | (refine and5 hr_ ?_; clear hr_; rintro hmu hF hL hp ⟨hn, m1, m2, m3⟩) | (refine and4 hr_ ?_; clear hr_; rintro hmu hF hL ⟨hp, hn, m1, m2, m3⟩) | (refine and3 hr_ ?_; clear hr_; rintro hmu hF ⟨hL, hp, hn, m1, m2, m3⟩) | obtain ⟨hmu, hF, hL, hp, hn, m1, m2, m3⟩ := hr_) | (refine ex5 h_1 ?_; clear h_1; rintro mu₁ F L ys zs hr_; first | (refine and9 hr_ ?_; clear hr_; rintro hs hmu hF hL hp hn m1 m2 m3) | (refine and8 hr_ ?_; clear hr_; rintro hs hmu hF hL hp hn m1 ⟨m2, m3⟩) | (refine and7 hr_ ?_; clear hr_; rintro hs hmu hF hL hp hn ⟨m1, m2, m3⟩) | (refine and6 hr_ ?_; clear hr_; rintro hs hmu hF hL hp ⟨hn, m1, m2, m3⟩) | (refine and5 hr_ ?_; clear hr_; rintro hs hmu hF hL ⟨hp, hn, m1, m2, m3⟩) | (refine and4 hr_ ?_; clear hr_; rintro hs hmu hF ⟨hL, hp, hn, m1, m2, m3⟩) | (refine and3 hr_ ?_; clear hr_; rintro hs hmu ⟨hF, hL, hp, hn, m1, m2, m3⟩) | obtain ⟨hs, hmu, hF, hL, hp, hn, m1, m2, m3⟩ := hr_) | (refine ex4 h_1 ?_; clear h_1; rintro mu₁ F L ys hr_; first | (refine and10 hr_ ?_; clear hr_; rintro zs hs hmu hF hL hp hn m1 m2 m3) | (refine and9 hr_ ?_; clear hr_; rintro zs hs hmu hF hL hp hn m1 ⟨m2, m3⟩) | (refine and8 hr_ ?_; clear hr_; rintro zs hs hmu hF hL hp hn ⟨m1, m2, m3⟩) | (refine and7 hr_ ?_; clear hr_; rintro zs hs hmu hF hL hp ⟨hn, m1, m2, m3⟩) | (refine and6 hr_ ?_; clear hr_; rintro zs hs hmu hF hL ⟨hp, hn, m1, m2, m3⟩) | (refine and5 hr_ ?_; clear hr_; rintro zs hs hmu hF ⟨hL, hp, hn, m1, m2, m3⟩) | (refine and4 hr_ ?_; clear hr_; rintro zs hs hmu ⟨hF, hL, hp, hn, m1, m2, m3⟩) | (refine and3 hr_ ?_; clear hr_; rintro zs hs ⟨hmu, hF, hL, hp, hn, m1, m2, m3⟩) | obtain ⟨zs, hs, hmu, hF, hL, hp, hn, m1, m2, m3⟩ := hr_) | (refine ex3 h_1 ?_; clear h_1; rintro mu₁ F L hr_; first | (refine and11 hr_ ?_; clear hr_; rintro ys zs hs hmu hF hL hp hn m1 m2 m3) | (refine and10 hr_ ?_; clear hr_; rintro ys zs hs hmu hF hL hp hn m1 ⟨m2, m3⟩) | (refine and9 hr_ ?_; clear hr_; rintro ys zs hs hmu hF hL hp hn ⟨m1, m2, m3⟩) | (refine and8 hr_ ?_; clear hr_; rintro ys zs hs hmu hF hL hp ⟨hn, m1, m2, m3⟩) | (refine and7 hr_ ?_; clear hr_; rintro ys zs hs hmu hF hL ⟨hp, hn, m1, m2, m3⟩) | (refine and6 hr_ ?_; clear hr_; rintro ys zs hs hmu hF ⟨hL, hp, hn, m1, m2, m3⟩) | (refine and5 hr_ ?_; clear hr_; rintro ys zs hs hmu ⟨hF, hL, hp, hn, m1, m2, m3⟩) | (refine and4 hr_ ?_; clear hr_; rintro ys zs hs ⟨hmu, hF, hL, hp, hn, m1, m2, m3⟩) | (refine and3 hr_ ?_; clear hr_; rintro ys zs ⟨hs, hmu, hF, hL, hp, hn, m1, m2, m3⟩) | obtain ⟨ys, zs, hs, hmu, hF, hL, hp, hn, m1, m2, m3⟩ := hr_) | (refine ex2 h_1 ?_; clear h_1; rintro mu₁ F hr_; first | (refine and12 hr_ ?_; clear hr_; rintro L ys zs hs hmu hF hL hp hn m1 m2 m3) | (refine and11 hr_ ?_; clear hr_; rintro L ys zs hs hmu hF hL hp hn m1 ⟨m2, m3⟩) | (refine and10 hr_ ?_; clear hr_; rintro L ys zs hs hmu hF hL hp hn ⟨m1, m2, m3⟩) | (refine and9 hr_ ?_; clear hr_; rintro L ys zs hs hmu hF hL hp ⟨hn, m1, m2, m3⟩) | (refine and8 hr_ ?_; clear hr_; rintro L ys zs hs hmu hF hL ⟨hp, hn, m1, m2, m3⟩) | (refine and7 hr_ ?_; clear hr_; rintro L ys zs hs hmu hF ⟨hL, hp, hn, m1, m2, m3⟩) | (refine and6 hr_ ?_; clear hr_; rintro L ys zs hs hmu ⟨hF, hL, hp, hn, m1, m2, m3⟩) | (refine and5 hr_ ?_; clear hr_; rintro L ys zs hs ⟨hmu, hF, hL, hp, hn, m1, m2, m3⟩) | (refine and4 hr_ ?_; clear hr_; rintro L ys zs ⟨hs, hmu, hF, hL, hp, hn, m1, m2, m3⟩) | (refine and3 hr_ ?_; clear hr_; rintro L ys ⟨zs, hs, hmu, hF, hL, hp, hn, m1, m2, m3⟩) | obtain ⟨L, ys, zs, hs, hmu, hF, hL, hp, hn, m1, m2, m3⟩ := hr_) | (refine ex1 h_1 ?_; clear h_1; rintro mu₁ hr_; first | (refine and13 hr_ ?_; clear hr_; rintro F L ys zs hs hmu hF hL hp hn m1 m2 m3) | (refine and12 hr_ ?_; clear hr_; rintro F L ys zs hs hmu hF hL hp hn m1 ⟨m2, m3⟩) | (refine and11 hr_ ?_; clear hr_; rintro F L ys zs hs hmu hF hL hp hn ⟨m1, m2, m3⟩) | (refine and10 hr_ ?_; clear hr_; rintro F L ys zs hs hmu hF hL hp ⟨hn, m1, m2, m3⟩) | (refine and9 hr_ ?_; clear hr_; rintro F L ys zs hs hmu hF hL ⟨hp, hn, m1, m2, m3⟩) | (refine and8 hr_ ?_; clear hr_; rintro F L ys zs hs hmu hF ⟨hL, hp, hn, m1, m2, m3⟩) | (refine and7 hr_ ?_; clear hr_; rintro F L ys zs hs hmu ⟨hF, hL, hp, hn, m1, m2, m3⟩) | (refine and6 hr_ ?_; clear hr_; rintro F L ys zs hs ⟨hmu, hF, hL, hp, hn, m1, m2, m3⟩) | (refine and5 hr_ ?_; clear hr_; rintro F L ys zs ⟨hs, hmu, hF, hL, hp, hn, m1, m2, m3⟩) | (refine and4 hr_ ?_; clear hr_; rintro F L ys ⟨zs, hs, hmu, hF, hL, hp, hn, m1, m2, m3⟩) | (refine and3 hr_ ?_; clear hr_; rintro F L ⟨ys, zs, hs, hmu, hF, hL, hp, hn, m1, m2, m3⟩) | obtain ⟨F, L, ys, zs, hs, hmu, hF, hL, hp, hn, m1, m2, m3⟩ := hr_) | (first | (refine and14 h_1 ?_; clear h_1; rintro mu₁ F L ys zs hs hmu hF hL hp hn m1 m2 m3) | (refine and13 h_1 ?_; clear h_1; rintro mu₁ F L ys zs hs hmu hF hL hp hn m1 ⟨m2, m3⟩) | (refine and12 h_1 ?_; clear h_1; rintro mu₁ F L ys zs hs hmu hF hL hp hn ⟨m1, m2, m3⟩) | (refine and11 h_1 ?_; clear h_1; rintro mu₁ F L ys zs hs hmu hF hL hp ⟨hn, m1, m2, m3⟩) | (refine and10 h_1 ?_; clear h_1; rintro mu₁ F L ys zs hs hmu hF hL ⟨hp, hn, m1, m2, m3⟩) | (refine and9 h_1 ?_; clear h_1; rintro mu₁ F L ys zs hs hmu hF ⟨hL, hp, hn, m1, m2, m3⟩) | (refine and8 h_1 ?_; clear h_1; rintro mu₁ F L ys zs hs hmu ⟨hF, hL, hp, hn, m1, m2, m3⟩) | (refine and7 h_1 ?_; clear h_1; rintro mu₁ F L ys zs hs ⟨hmu, hF, hL, hp, hn, m1, m2, m3⟩) | (refine and6 h_1 ?_; clear h_1; rintro mu₁ F L ys zs ⟨hs, hmu, hF, hL, hp, hn, m1, m2, m3⟩) | (refine and5 h_1 ?_; clear h_1; rintro mu₁ F L ys ⟨zs, hs, hmu, hF, hL, hp, hn, m1, m2, m3⟩) | (refine and4 h_1 ?_; clear h_1; rintro mu₁ F L ⟨ys, zs, hs, hmu, hF, hL, hp, hn, m1, m2, m3⟩) | (refine and3 h_1 ?_; clear h_1; rintro mu₁ F ⟨L, ys, zs, hs, hmu, hF, hL, hp, hn, m1, m2, m3⟩) | obtain ⟨mu₁, F, L, ys, zs, hs, hmu, hF, hL, hp, hn, m1, m2, m3⟩ := h_1)
    refine k_ ?_
    clear k_ X_
    dsimp only at hmu m1 m2 m3
    subst hmu
    refine Seq.next ?_
    refine w_drop (mu₁ ++ [(f, .lst F)]) ?_ ?_
    · refine List.Sublist.trans ?_ (List.sublist_cons_self _ _)
      exact List.Sublist.append (l₁ := mu₁) (l₂ := mu₁) (r₁ := [(f, Sh.lst F)]) (r₂ := [(f, Sh.lst F), (l, Sh.lst L)]) (List.Sublist.refl _) (List.Sublist.cons_cons _ (List.nil_sublist _))
    refine w_turn ((f, .lst F) :: mu₁) (List.perm_append_comm (l₂ := [(f, Sh.lst F)])) ?_
    walk_at "ms"
    exact ⟨f, F, ys, zs, mu₁, rfl, rfl, hs, hF, hp⟩
end
end Mine
end -- F5

section -- F6
open PySem PySem.W PySem.Calls PyProof.Rows PySem.Builtin
namespace Mine
section
variable {prog : Program} {w : World} {O : Heap} {A : Around} {P : Params} {mg mb : Str → Option Value} {g : Kn}

structure Row where
  name : Str
  uris : List (Str × Str)
  attrs : List (Str × Str × Str)
  text : Str
noncomputable def V2 (g : Kn) (p : Str × Str) (v : Value) : Prop := ∃ a t u, v = .ref a ∧ g a (.tup [.str p.1 t, .str p.2 u])
noncomputable def V3 (g : Kn) (p : Str × Str × Str) (v : Value) : Prop := ∃ a t u x, v = .ref a ∧ g a (.tup [.str p.1 t, .str p.2.1 u, .str p.2.2 x])
noncomputable def RowV (g : Kn) (r : Row) (v : Value) : Prop := ∃ a t bu us ba as x, v = .ref a ∧ g a (.tup [.str r.name t, .ref bu, .ref ba, .str r.text x]) ∧ g bu (.lst us) ∧ Each (V2 g) r.uris us ∧ g ba (.lst as) ∧ Each (V3 g) r.attrs as
theorem V2.mono {g g' : Kn} (k : ∀ a sh, g a sh → g' a sh) (p : Str × Str) (v : Value) (h : V2 g p v) : V2 g' p v := let ⟨a, t, u, e, h⟩ := h; ⟨a, t, u, e, k _ _ h⟩
theorem V3.mono {g g' : Kn} (k : ∀ a sh, g a sh → g' a sh) (p : Str × Str × Str) (v : Value) (h : V3 g p v) : V3 g' p v := let ⟨a, t, u, x, e, h⟩ := h; ⟨a, t, u, x, e, k _ _ h⟩
theorem RowV.mono {g g' : Kn} (k : ∀ a sh, g a sh → g' a sh) (r : Row) (v : Value) (h : RowV g r v) : RowV g' r v :=
  let ⟨a, t, bu, us, ba, as, x, e, h1, h2, h3, h4, h5⟩ := h; ⟨a, t, bu, us, ba, as, x, e, k _ _ h1, k _ _ h2, h3.mono (V2.mono k), k _ _ h4, h5.mono (V3.mono k)⟩

theorem V2.monoT {g g' : Kn} (k : ∀ a vs, g a (.tup vs) → g' a (.tup vs)) (p : Str × Str) (v : Value) (h : V2 g p v) : V2 g' p v := let ⟨a, t, u, e, h⟩ := h; ⟨a, t, u, e, k _ _ h⟩
theorem V3.monoT {g g' : Kn} (k : ∀ a vs, g a (.tup vs) → g' a (.tup vs)) (p : Str × Str × Str) (v : Value) (h : V3 g p v) : V3 g' p v := let ⟨a, t, u, x, e, h⟩ := h; ⟨a, t, u, x, e, k _ _ h⟩
noncomputable def prefL : List Str := ["", "p", "q", "r"]
noncomputable def attrL : List (Str × Str) := [("", "k"), ("p", "k"), ("q", "m"), ("q", "a"), ("r", "k")]
noncomputable def uriOf (p : Str) : Str := if p = "" then "" else if p = "p" then "u:3" else if p = "q" then "u:1" else "u:2"
noncomputable def nameL : List Str := ["e", "q:c", "c"]
structure RowOk (r : Row) : Prop where
  name : r.name ∈ nameL
  uris : ∃ zs, (r.uris.map (·.1) ++ zs).Perm prefL
  uri : ∀ p ∈ r.uris, p.2 = "u:9" ∨ p.2 = uriOf p.1
  attrs : ∃ zs, (r.attrs.map (fun p => (p.1, p.2.1)) ++ zs).Perm attrL
  vals : ∀ p ∈ r.attrs, p.2.2 ∈ wordL
  text : r.text ∈ wordL

theorem uriAt {p : Str} (h : p ∈ prefL) (t1 t2 t3 t4 : Tok) : ∃ t, valueAt (uriKvs t1 t2 t3 t4) p = some (.str (uriOf p) t) := by
  have h' : p = "" ∨ p = "p" ∨ p = "q" ∨ p = "r" := by simpa [prefL] using h
  rcases h' with rfl | rfl | rfl | rfl
  · exact ⟨t1, by kernel_rfl⟩
  · exact ⟨t2, by kernel_rfl⟩
  · exact ⟨t3, by kernel_rfl⟩
  · exact ⟨t4, by kernel_rfl⟩
theorem row_ok' (G : Gnd (hk.heap_1 P) O mg mb) (hA : Amb A 4) {sr : Addr} {mu : Led} {i₀ : Nat} {ti : Tok} (hs : SrcLed sr mu) (hi₀ : i₀ < 3) :
    Calls prog w O A (.ref 394) [.ref sr, .int i₀ ti] g mu (fun v mu' => ∃ r fr mu₁ mu₂, mu' = fr ++ (mu₁ ++ mu₂) ∧ SrcLed sr mu₁ ∧ RowOk r ∧ nameL[i₀]? = some r.name ∧ RowV (inL (fr ++ mu₂)) r v) := by
  refine Calls.fnC (n := 3) [("source", .ref sr), ("number", .int i₀ ti)] (over "number" (.int i₀ ti) fun _ => none) (fun L => [(L + 1, .cell (some (.ref sr)))]) G hA (by k_is) (by k_is) (fun _ _ => BindsTo.of_eq rfl) (by kernel_rfl) (by decide +kernel) (by kernel_rfl) (by intro L; kernel_rfl) ?_ (by rfl) (by rfl) (by rfl)
  intro L s env c hA G
  have hh : c.A.handled = none := hA.handled
  refine w_freeze (fr := [(L + 1, .cell (some (.ref sr)))]) (mu := mu) ?_
  refine w_pad ?_
  have kc : (ext c.g [(L + 1, .cell (some (.ref sr)))]) (L + 1) (.cell (some (.ref sr))) := .inr (.head _)
  walk_at "ms"
  rename_i gu t1 t2 t3 t4 n1 n2 n3 b
  refine w_in [_, _] ?_
  refine w_call _ (fun g' h1 h2 => drawn_ok (R := SV) (xs := prefL) G hA.le hs (h2 (_, _) (.head _)) ⟨⟨_, rfl⟩, ⟨_, rfl⟩, ⟨_, rfl⟩, ⟨_, rfl⟩, trivial⟩ (by decide)) ?_
  rintro _ _ h_2
  refine hide ?_
  intro X_ k_
  first | (refine ex5 h_2 ?_; clear h_2; rintro d fs ys zs mu₁ hr_; first | (refine and5 hr_ ?_; clear hr_; rintro rfl rfl hs₁ hF hp) | (refine and4 hr_ ?_; clear hr_; rintro rfl rfl hs₁ ⟨hF, hp⟩) | (refine and3 hr_ ?_; clear hr_; rintro rfl rfl ⟨hs₁, hF, hp⟩) | obtain ⟨rfl, rfl, hs₁, hF, hp⟩ := hr_) | (refine ex4 h_2 ?_; clear h_2; rintro d fs ys zs hr_; first | (refine and6 hr_ ?_; clear hr_; rintro mu₁ rfl rfl hs₁ hF hp) | (refine and5 hr_ ?_; clear hr_; rintro mu₁ rfl rfl hs₁ ⟨hF, hp⟩) | (refine and4 hr_ ?_; clear hr_; rintro mu₁ rfl rfl ⟨hs₁, hF, hp⟩) | (refine and3 hr_ ?_; clear hr_; rintro mu₁ rfl ⟨rfl, hs₁, hF, hp⟩) | obtain ⟨mu₁, rfl, rfl, hs₁, hF, hp⟩ := hr_) | (refine ex3 h_2 ?_; clear h_2; rintro d fs ys hr_; first | (refine and7 hr_ ?_; clear hr_; rintro zs mu₁ rfl rfl hs₁ hF hp) | (refine and6 hr_ ?_; clear hr_; rintro zs mu₁ rfl rfl hs₁ ⟨hF, hp⟩) | (refine and5 hr_ ?_; clear hr_; rintro zs mu₁ rfl rfl ⟨hs₁, hF, hp⟩) | (refine and4 hr_ ?_; clear hr_; rintro zs mu₁ rfl ⟨rfl, hs₁, hF, hp⟩) | (refine and3 hr_ ?_; clear hr_; rintro zs mu₁ ⟨rfl, rfl, hs₁, hF, hp⟩) | obtain ⟨zs, mu₁, rfl, rfl, hs₁, hF, hp⟩ := hr_) | (refine ex2 h_2 ?_; clear h_2; rintro d fs hr_; first | (refine and8 hr_ ?_; clear hr_; rintro ys zs mu₁ rfl rfl hs₁ hF hp) | (refine and7 hr_ ?_; clear hr_; rintro ys zs mu₁ rfl rfl hs₁ ⟨hF, hp⟩) | (refine and6 hr_ ?_; clear hr_; rintro ys zs mu₁ rfl rfl ⟨hs₁, hF, hp⟩) | (refine and5 hr_ ?_; clear hr_; rintro ys zs mu₁ rfl ⟨rfl, hs₁, hF, hp⟩) | (refine and4 hr_ ?_; clear hr_; rintro ys zs mu₁ ⟨rfl, rfl, hs₁, hF, hp⟩) | (refine and3 hr_ ?_; clear hr_; rintro ys zs ⟨mu₁, rfl, rfl, hs₁, hF, hp⟩) | obtain ⟨ys, zs, mu₁, rfl, rfl, hs₁, hF, hp⟩ := hr_) | (refine ex1 h_2 ?_; clear h_2; rintro d hr_; first | (refine and9 hr_ ?_; clear hr_; rintro fs ys zs mu₁ rfl rfl hs₁ hF hp) | (refine and8 hr_ ?_; clear hr_; rintro fs ys zs mu₁ rfl rfl hs₁ ⟨hF, hp⟩) | (refine and7 hr_ ?_; clear hr_; rintro fs ys zs mu₁ rfl rfl ⟨hs₁, hF, hp⟩) | (refine and6 hr_ ?_; clear hr_; rintro fs ys zs mu₁ rfl ⟨rfl, hs₁, hF, hp⟩) | (refine and5 hr_ ?_; clear hr_; rintro fs ys zs mu₁ ⟨rfl, rfl, hs₁, hF, hp⟩) | (refine and4 hr_ ?_; clear hr_; rintro fs ys zs ⟨mu₁, rfl, rfl, hs₁, hF, hp⟩) | (refine and3 hr_ ?_; clear hr_; rintro fs ys ⟨zs, mu₁, rfl, rfl, hs₁, hF, hp⟩) | obtain ⟨fs, ys, zs, mu₁, rfl, rfl, hs₁, hF, hp⟩ := hr_) | (first | (refine and10 h_2 ?_; clear h_2; rintro d fs ys zs mu₁ rfl rfl hs₁ hF hp) | (refine and9 h_2 ?_; clear h_2; rintro d fs ys zs mu₁ rfl rfl hs₁ ⟨hF, hp⟩) | (refine and8 h_2 ?_; clear h_2; rintro d fs ys zs mu₁ rfl rfl ⟨hs₁, hF, hp⟩) | (refine and7 h_2 ?_; clear h_2; rintro d fs ys zs mu₁ rfl ⟨rfl, hs₁, hF, hp⟩) | (refine and6 h_2 ?_; clear h_2; rintro d fs ys zs mu₁ ⟨rfl, rfl, hs₁, hF, hp⟩) | (refine and5 h_2 ?_; clear h_2; rintro d fs ys zs ⟨mu₁, rfl, rfl, hs₁, hF, hp⟩) | (refine and4 h_2 ?_; clear h_2; rintro d fs ys ⟨zs, mu₁, rfl, rfl, hs₁, hF, hp⟩) | (refine and3 h_2 ?_; clear h_2; rintro d fs ⟨ys, zs, mu₁, rfl, rfl, hs₁, hF, hp⟩) | obtain ⟨d, fs, ys, zs, mu₁, rfl, rfl, hs₁, hF, hp⟩ := h_2)
  refine k_ ?_
  clear k_ X_
  have hF' := hF
  refine w_freeze (fr := [(d, .lst fs)]) (mu := mu₁ ++ [(b, _), (gu, .lst [])]) ?_
  refine w_forSrc (src_lst hh (.inr (.head _)) fun _ => dr_name) (fun i st => ∃ mu₁ G pre acc us, SrcLed sr mu₁ ∧ st.mu = mu₁ ++ (pre ++ (gu, .lst G) :: acc) ∧ Each (V2 (inL (pre ++ acc))) us G ∧ us.map (·.1) = ys.take i ∧
    (∀ p ∈ us, p.2 = "u:9" ∨ p.2 = uriOf p.1) ∧ st.m "given_uris" = some (.ref gu) ∧ st.m "number" = some (.int i₀ ti)) ?h0 ?turn ?fin
  case h0 =>
    refine ⟨mu₁, [], [(b, _)], [], [], hs₁, rfl, trivial, rfl, (fun _ h => absurd h List.not_mem_nil), ?_, ?_⟩
    · walk_at "ml0"
    · walk_at "ml0"
  case turn =>
    rintro i v ⟨m, mu₂⟩ g' hi hv h_6 hg'
    refine hide ?_
    intro X_ k_
    first | (refine ex11 h_6 ?_; clear h_6; rintro mu₁ F pre acc us hs hmu hU hu1 hu2 m1 m2) | (refine ex10 h_6 ?_; clear h_6; rintro mu₁ F pre acc us hs hmu hU hu1 hu2 hr_; first | obtain ⟨m1, m2⟩ := hr_) | (refine ex9 h_6 ?_; clear h_6; rintro mu₁ F pre acc us hs hmu hU hu1 hr_; first | (refine and3 hr_ ?_; clear hr_; rintro hu2 m1 m2) | obtain ⟨hu2, m1, m2⟩ := hr_) | (refine ex8 h_6 ?_; clear h_6; rintro mu₁ F pre acc us hs hmu hU hr_; first | (refine and4 hr_ ?_; clear hr_; rintro hu1 hu2 m1 m2) | (refine and3 hr_ ?_; clear hr_; rintro hu1 hu2 ⟨m1, m2⟩) | obtain ⟨hu1, hu2, m1, m2⟩ := hr_) | (refine ex7 h_6 ?_; clear h_6; rintro mu₁ F pre acc us hs hmu hr_; first | (refine and5 hr_ ?_; clear hr_; rintro hU hu1 hu2 m1 m2) | (refine and4 hr_ ?_; clear hr_; rintro hU hu1 hu2 ⟨m1, m2⟩) | (refine and3 hr_ ?_; clear hr_; rintro hU hu1 ⟨hu2, m1, m2⟩) | obtain ⟨hU, hu1, hu2, m1, m2⟩ := hr_) | (refine ex6 h_6 ?_; clear h_6; rintro mu₁ F pre acc us hs hr_; first | (refine and6 hr_ ?_; clear hr_; rintro hmu hU hu1 hu2 m1 m2) | (refine and5 hr_ ?_; clear hr_; rintro hmu hU hu1 hu2 ⟨m1, m2⟩) | (refine and4 hr_ ?_; clear hr_; rintro hmu hU hu1 ⟨hu2, m1, m2⟩) | (refine and3 hr_ ?_; clear hr_; rintro hmu hU ⟨hu1, hu2, m1, m2⟩) | obtain ⟨hmu, hU, hu1, hu2, m1, m2⟩ := hr_) | (refine ex5 h_6 ?_; clear h_6; rintro mu₁ F pre acc us hr_; first | (refine and7 hr_ ?_; clear hr_; rintro hs hmu hU hu1 hu2 m1 m2) | (refine and6 hr_ ?_; clear hr_; rintro hs hmu hU hu1 hu2 ⟨m1, m2⟩) | (refine and5 hr_ ?_; clear hr_; rintro hs hmu hU hu1 ⟨hu2, m1, m2⟩) | (refine and4 hr_ ?_; clear hr_; rintro hs hmu hU ⟨hu1, hu2, m1, m2⟩) | (refine and3 hr_ ?_; clear hr_; rintro hs hmu ⟨hU, hu1, hu2, m1, m2⟩) | obtain ⟨hs, hmu, hU, hu1, hu2, m1, m2⟩ := hr_) | (refine ex4 h_6 ?_; clear h_6; rintro mu₁ F pre acc hr_; first | (refine and8 hr_ ?_; clear hr_; rintro us hs hmu hU hu1 hu2 m1 m2) | (refine and7 hr_ ?_; clear hr_; rintro us hs hmu hU hu1 hu2 ⟨m1, m2⟩) | (refine and6 hr_ ?_; clear hr_; rintro us hs hmu hU hu1 ⟨hu2, m1, m2⟩) | (refine and5 hr_ ?_; clear hr_; rintro us hs hmu hU ⟨hu1, hu2, m1, m2⟩) | (refine and4 hr_ ?_; clear hr_; rintro us hs hmu ⟨hU, hu1, hu2, m1, m2⟩) | (refine and3 hr_ ?_; clear hr_; rintro us hs ⟨hmu, hU, hu1, hu2, m1, m2⟩) | obtain ⟨us, hs, hmu, hU, hu1, hu2, m1, m2⟩ := hr_) | (refine ex3 h_6 ?_; clear h_6; rintro mu₁ F pre hr_; first | (refine and9 hr_ ?_; clear hr_; rintro acc us hs hmu hU hu1 hu2 m1 m2) | (refine and8 hr_ ?_; clear hr_; rintro acc us hs hmu hU hu1 hu2 ⟨m1, m2⟩) | (refine and7 hr_ ?_; clear hr_; rintro acc us hs hmu hU hu1 ⟨hu2, m1, m2⟩) | (refine and6 hr_ ?_; clear hr_; rintro acc us hs hmu hU ⟨hu1, hu2, m1, m2⟩) | (refine and5 hr_ ?_; clear hr_; rintro acc us hs hmu ⟨hU, hu1, hu2, m1, m2⟩) | (refine and4 hr_ ?_; clear hr_; rintro acc us hs ⟨hmu, hU, hu1, hu2, m1, m2⟩) | (refine and3 hr_ ?_; clear hr_; rintro acc us ⟨hs, hmu, hU, hu1, hu2, m1, m2⟩) | obtain ⟨acc, us, hs, hmu, hU, hu1, hu2, m1, m2⟩ := hr_) | (refine ex2 h_6 ?_; clear h_6; rintro mu₁ F hr_; first | (refine and10 hr_ ?_; clear hr_; rintro pre acc us hs hmu hU hu1 hu2 m1 m2) | (refine and9 hr_ ?_; clear hr_; rintro pre acc us hs hmu hU hu1 hu2 ⟨m1, m2⟩) | (refine and8 hr_ ?_; clear hr_; rintro pre acc us hs hmu hU hu1 ⟨hu2, m1, m2⟩) | (refine and7 hr_ ?_; clear hr_; rintro pre acc us hs hmu hU ⟨hu1, hu2, m1, m2⟩) | (refine and6 hr_ ?_; clear hr_; rintro pre acc us hs hmu ⟨hU, hu1, hu2, m1, m2⟩) | (refine and5 hr_ ?_; clear hr_; rintro pre acc us hs ⟨hmu, hU, hu1, hu2, m1, m2⟩) | (refine and4 hr_ ?_; clear hr_; rintro pre acc us ⟨hs, hmu, hU, hu1, hu2, m1, m2⟩) | (refine and3 hr_ ?_; clear hr_; rintro pre acc ⟨us, hs, hmu, hU, hu1, hu2, m1, m2⟩) | obtain ⟨pre, acc, us, hs, hmu, hU, hu1, hu2, m1, m2⟩ := hr_) | (refine ex1 h_6 ?_; clear h_6; rintro mu₁ hr_; first | (refine and11 hr_ ?_; clear hr_; rintro F pre acc us hs hmu hU hu1 hu2 m1 m2) | (refine and10 hr_ ?_; clear hr_; rintro F pre acc us hs hmu hU hu1 hu2 ⟨m1, m2⟩) | (refine and9 hr_ ?_; clear hr_; rintro F pre acc us hs hmu hU hu1 ⟨hu2, m1, m2⟩) | (refine and8 hr_ ?_; clear hr_; rintro F pre acc us hs hmu hU ⟨hu1, hu2, m1, m2⟩) | (refine and7 hr_ ?_; clear hr_; rintro F pre acc us hs hmu ⟨hU, hu1, hu2, m1, m2⟩) | (refine and6 hr_ ?_; clear hr_; rintro F pre acc us hs ⟨hmu, hU, hu1, hu2, m1, m2⟩) | (refine and5 hr_ ?_; clear hr_; rintro F pre acc us ⟨hs, hmu, hU, hu1, hu2, m1, m2⟩) | (refine and4 hr_ ?_; clear hr_; rintro F pre acc ⟨us, hs, hmu, hU, hu1, hu2, m1, m2⟩) | (refine and3 hr_ ?_; clear hr_; rintro F pre ⟨acc, us, hs, hmu, hU, hu1, hu2, m1, m2⟩) | obtain ⟨F, pre, acc, us, hs, hmu, hU, hu1, hu2, m1, m2⟩ := hr_) | (first | (refine and12 h_6 ?_; clear h_6; rintro mu₁ F pre acc us hs hmu hU hu1 hu2 m1 m2) | (refine and11 h_6 ?_; clear h_6; rintro mu₁ F pre acc us hs hmu hU hu1 hu2 ⟨m1, m2⟩) | (refine and10 h_6 ?_; clear h_6; rintro mu₁ F pre acc us hs hmu hU hu1 ⟨hu2, m1, m2⟩) | (refine and9 h_6 ?_; clear h_6; rintro mu₁ F pre acc us hs hmu hU ⟨hu1, hu2, m1, m2⟩) | (refine and8 h_6 ?_; clear h_6; rintro mu₁ F pre acc us hs hmu ⟨hU, hu1, hu2, m1, m2⟩) | (refine and7 h_6 ?_; clear h_6; rintro mu₁ F pre acc us hs ⟨hmu, hU, hu1, hu2, m1, m2⟩) | (refine and6 h_6 ?_; clear h_6; rintro mu₁ F pre acc us ⟨hs, hmu, hU, hu1, hu2, m1, m2⟩) | (refine and5 h_6 ?_; clear h_6; rintro mu₁ F pre acc ⟨us, hs, hmu, hU, hu1, hu2, m1, m2⟩) | (refine and4 h_6 ?_; clear h_6; rintro mu₁ F pre ⟨acc, us, hs, hmu, hU, hu1, hu2, m1, m2⟩) | (refine and3 h_6 ?_; clear h_6; rintro mu₁ F ⟨pre, acc, us, hs, hmu, hU, hu1, hu2, m1, m2⟩) | obtain ⟨mu₁, F, pre, acc, us, hs, hmu, hU, hu1, hu2, m1, m2⟩ := h_6)
    refine k_ ?_
    clear k_ X_
    dsimp only at hmu m1 m2
    subst hmu
    refine hide ?_
    intro X_ k_
    first | (refine ex3 (hF.get' hv) ?_; rintro p hpi tp rfl) | (refine ex2 (hF.get' hv) ?_; rintro p hpi hr_; first | obtain ⟨tp, rfl⟩ := hr_) | (refine ex1 (hF.get' hv) ?_; rintro p hr_; first | (refine and3 hr_ ?_; clear hr_; rintro hpi tp rfl) | obtain ⟨hpi, tp, rfl⟩ := hr_) | (first | (refine and4 (hF.get' hv) ?_; rintro p hpi tp rfl) | (refine and3 (hF.get' hv) ?_; rintro p hpi ⟨tp, rfl⟩) | obtain ⟨p, hpi, tp, rfl⟩ := (hF.get' hv))
    refine k_ ?_
    clear k_ X_
    have kc' := hg' _ _ (.inl kc)
    walk_at "ms"
    rename_i t9
    refine w_call (mu := []) _ (fun g' _ _ => uris_ok G hA.le) ?_
    rintro _ _ h_2
    refine hide ?_
    intro X_ k_
    first | (refine ex5 h_2 ?_; clear h_2; rintro ud s1 s2 s3 s4 hr_; first | obtain ⟨rfl, rfl⟩ := hr_) | (refine ex4 h_2 ?_; clear h_2; rintro ud s1 s2 s3 hr_; first | (refine and3 hr_ ?_; clear hr_; rintro s4 rfl rfl) | obtain ⟨s4, rfl, rfl⟩ := hr_) | (refine ex3 h_2 ?_; clear h_2; rintro ud s1 s2 hr_; first | (refine and4 hr_ ?_; clear hr_; rintro s3 s4 rfl rfl) | (refine and3 hr_ ?_; clear hr_; rintro s3 s4 ⟨rfl, rfl⟩) | obtain ⟨s3, s4, rfl, rfl⟩ := hr_) | (refine ex2 h_2 ?_; clear h_2; rintro ud s1 hr_; first | (refine and5 hr_ ?_; clear hr_; rintro s2 s3 s4 rfl rfl) | (refine and4 hr_ ?_; clear hr_; rintro s2 s3 s4 ⟨rfl, rfl⟩) | (refine and3 hr_ ?_; clear hr_; rintro s2 s3 ⟨s4, rfl, rfl⟩) | obtain ⟨s2, s3, s4, rfl, rfl⟩ := hr_) | (refine ex1 h_2 ?_; clear h_2; rintro ud hr_; first | (refine and6 hr_ ?_; clear hr_; rintro s1 s2 s3 s4 rfl rfl) | (refine and5 hr_ ?_; clear hr_; rintro s1 s2 s3 s4 ⟨rfl, rfl⟩) | (refine and4 hr_ ?_; clear hr_; rintro s1 s2 s3 ⟨s4, rfl, rfl⟩) | (refine and3 hr_ ?_; clear hr_; rintro s1 s2 ⟨s3, s4, rfl, rfl⟩) | obtain ⟨s1, s2, s3, s4, rfl, rfl⟩ := hr_) | (first | (refine and7 h_2 ?_; clear h_2; rintro ud s1 s2 s3 s4 rfl rfl) | (refine and6 h_2 ?_; clear h_2; rintro ud s1 s2 s3 s4 ⟨rfl, rfl⟩) | (refine and5 h_2 ?_; clear h_2; rintro ud s1 s2 s3 ⟨s4, rfl, rfl⟩) | (refine and4 h_2 ?_; clear h_2; rintro ud s1 s2 ⟨s3, s4, rfl, rfl⟩) | (refine and3 h_2 ?_; clear h_2; rintro ud s1 ⟨s2, s3, s4, rfl, rfl⟩) | obtain ⟨ud, s1, s2, s3, s4, rfl, rfl⟩ := h_2)
    refine k_ ?_
    clear k_ X_
    walk_at "ms"
    have hpp : p ∈ prefL := hp.mem_iff.mp (List.mem_append_left _ (List.mem_of_getElem? hpi))
    obtain ⟨tu, hu⟩ := uriAt hpp s1 s2 s3 s4
    refine w_itemDct (kn_mu (.head _)) hu ?_ sub_name
    walk_at "ms"
    rename_i ll t10
    refine w_in [_, _] ?_
    refine w_call _ (fun g' h1 h2 => next_ok G hA.le (top := 2) (by omega) (by omega) hs) ?_
    rintro _ mu₃ h_2
    refine hide ?_
    intro X_ k_
    first | obtain ⟨⟨j, hj, tj, rfl⟩, hs₃⟩ := h_2
    refine k_ ?_
    clear k_ X_
    obtain ⟨u, tv, hv1, hv2⟩ : ∃ u tv, [Value.str "u:9" t9, .str (uriOf p) tu][j]? = some (.str u tv) ∧ (u = "u:9" ∨ u = uriOf p) := by
      obtain rfl | rfl : j = 0 ∨ j = 1 := by omega
      · exact ⟨_, _, rfl, .inl rfl⟩
      · exact ⟨_, _, rfl, .inr rfl⟩
    refine w_itemLst (kn_mu (List.mem_append_right _ (.head _))) (Int.natCast_nonneg _) (by simpa using hv1) (by rw [sizeLine_eq]; show (2 : Nat) ≤ _; decide) ?_ sub_call
    walk_at "ms"
    refine m_list_append (kn_mu (by walk_at "mmem")) ?_
    walk_at "ms"
    rename_i tt
    refine w_append (vs := F) (x := .ref tt) (mu' := (tt, .tup [.str p tp, .str u tv]) :: (mu₃ ++ ((ll, .lst [.str "u:9" t9, .str (uriOf p) tu]) :: (ud, .dct (uriKvs s1 s2 s3 s4)) :: (pre ++ (gu, .lst (F ++ [.ref tt])) :: acc)))) ?_ ?_ ?_
    · exact Up.tail (Up.appR (Up.tail (Up.tail (Up.appR Up.head pre))) mu₃)
    · have e1 := hU.len
      have e2 := congrArg List.length hu1
      have e3 : (ys.take i).length ≤ ys.length := List.length_take_le' i ys
      have e4 := hp.length_eq
      rw [List.length_map] at e2
      rw [List.length_append] at e4
      have e5 : prefL.length = 4 := rfl
      rw [sizeLine_eq]
      omega
    refine Seq.next ?_
    refine w_in [_] ?_
    walk_at "ms"
    refine ⟨mu₃, F ++ [.ref tt], (tt, .tup [.str p tp, .str u tv]) :: (ll, .lst [.str "u:9" t9, .str (uriOf p) tu]) :: (ud, .dct (uriKvs s1 s2 s3 s4)) :: pre, acc, us ++ [(p, u)], hs₃, rfl, ?_, ?_, ?_, ?_, ?_⟩
    · exact Each.snoc (hU.mono (V2.monoT fun a vs h => .tail _ (.tail _ (.tail _ h)))) ⟨tt, tp, tv, rfl, .head _⟩
    · rw [List.map_append, hu1, List.take_add_one, hpi]
      rfl
    · intro q hq
      rcases List.mem_append.mp hq with hq | hq
      · exact hu2 q hq
      · rw [List.mem_singleton.mp hq]
        exact hv2
    · walk_at "ml0"
    · walk_at "ml0"
  case fin =>
    rintro ⟨m, mu₂⟩ h_1
    refine hide ?_
    intro X_ k_
    first | (refine ex11 h_1 ?_; clear h_1; rintro mu₁ F pre acc us hs hmu hU hu1 hu2 m1 m2) | (refine ex10 h_1 ?_; clear h_1; rintro mu₁ F pre acc us hs hmu hU hu1 hu2 hr_; first | obtain ⟨m1, m2⟩ := hr_) | (refine ex9 h_1 ?_; clear h_1; rintro mu₁ F pre acc us hs hmu hU hu1 hr_; first | (refine and3 hr_ ?_; clear hr_; rintro hu2 m1 m2) | obtain ⟨hu2, m1, m2⟩ := hr_) | (refine ex8 h_1 ?_; clear h_1; rintro mu₁ F pre acc us hs hmu hU hr_; first | (refine and4 hr_ ?_; clear hr_; rintro hu1 hu2 m1 m2) | (refine and3 hr_ ?_; clear hr_; rintro hu1 hu2 ⟨m1, m2⟩) | obtain ⟨hu1, hu2, m1, m2⟩ := hr_) | (refine ex7 h_1 ?_; clear h_1; rintro mu₁ F pre acc us hs hmu hr_; first | (refine and5 hr_ ?_; clear hr_; rintro hU hu1 hu2 m1 m2) | (refine and4 hr_ ?_; clear hr_; rintro hU hu1 hu2 ⟨m1, m2⟩) | (refine and3 hr_ ?_; clear hr_; rintro hU hu1 ⟨hu2, m1, m2⟩) | obtain ⟨hU, hu1, hu2, m1, m2⟩ := hr_) | (refine ex6 h_1 ?_; clear h_1; rintro mu₁ F pre acc us hs hr_; first | (refine and6 hr_ ?_; clear hr_; rintro hmu hU hu1 hu2 m1 m2) | (refine and5 hr_ ?_; clear hr_; rintro hmu hU hu1 hu2 ⟨m1, m2⟩) | (refine and4 hr_ ?_; clear hr_; rintro hmu hU hu1 ⟨hu2, m1, m2⟩) | (refine and3 hr_ ?_; clear hr_; rintro hmu hU ⟨hu1, hu2, m1, m2⟩) | obtain ⟨hmu, hU, hu1, hu2, m1, m2⟩ := hr_) | (refine ex5 h_1 ?_; clear h_1; rintro mu₁ F pre acc us hr_; first | (refine and7 hr_ ?_; clear hr_; rintro hs hmu hU hu1 hu2 m1 m2) | (refine and6 hr_ ?_; clear hr_; rintro hs hmu hU hu1 hu2 ⟨m1, m2⟩) | (refine and5 hr_ ?_; clear hr_; rintro hs hmu hU hu1 ⟨hu2, m1, m2⟩) | (refine and4 hr_ ?_; clear hr_; rintro hs hmu hU ⟨hu1, hu2, m1, m2⟩) | (refine and3 hr_ ?_; clear hr_; rintro hs hmu ⟨hU, hu1, hu2, m1, m2⟩) | obtain ⟨hs, hmu, hU, hu1, hu2, m1, m2⟩ := hr_) | (refine ex4 h_1 ?_; clear h_1; rintro mu₁ F pre acc hr_; first | (refine and8 hr_ ?_; clear hr_; rintro us hs hmu hU hu1 hu2 m1 m2) | (refine and7 hr_ ?_; clear hr_; rintro us hs hmu hU hu1 hu2 ⟨m1, m2⟩) | (refine and6 hr_ ?_; clear hr_; rintro us hs hmu hU hu1 ⟨hu2, m1, m2⟩) | (refine and5 hr_ ?_; clear hr_; rintro us hs hmu hU ⟨hu1, hu2, m1, m2⟩) | (refine and4 hr_ ?_; clear hr_; rintro us hs hmu ⟨hU, hu1, hu2, m1, m2⟩) | (refine and3 hr_ ?_; clear hr_; rintro us hs ⟨hmu, hU, hu1, hu2, m1, m2⟩) | obtain ⟨us, hs, hmu, hU, hu1, hu2, m1, m2⟩ := hr_) | (refine ex3 h_1 ?_; clear h_1; rintro mu₁ F pre hr_; first | (refine and9 hr_ ?_; clear hr_; rintro acc us hs hmu hU hu1 hu2 m1 m2) | (refine and8 hr_ ?_; clear hr_; rintro acc us hs hmu hU hu1 hu2 ⟨m1, m2⟩) | (refine and7 hr_ ?_; clear hr_; rintro acc us hs hmu hU hu1 ⟨hu2, m1, m2⟩) | (refine and6 hr_ ?_; clear hr_; rintro acc us hs hmu hU ⟨hu1, hu2, m1, m2⟩) | (refine and5 hr_ ?_; clear hr_; rintro acc us hs hmu ⟨hU, hu1, hu2, m1, m2⟩) | (refine and4 hr_ ?_; clear hr_; rintro acc us hs ⟨hmu, hU, hu1, hu2, m1, m2⟩) | (refine and3 hr_ ?_; clear hr_; rintro acc us ⟨hs, hmu, hU, hu1, hu2, m1, m2⟩) | obtain ⟨acc, us, hs, hmu, hU, hu1, hu2, m1, m2⟩ := hr_) | (refine ex2 h_1 ?_; clear h_1; rintro mu₁ F hr_; first | (refine and10 hr_ ?_; clear hr_; rintro pre acc us hs hmu hU hu1 hu2 m1 m2) | (refine and9 hr_ ?_; clear hr_; rintro pre acc us hs hmu hU hu1 hu2 ⟨m1, m2⟩) | (refine and8 hr_ ?_; clear hr_; rintro pre acc us hs hmu hU hu1 ⟨hu2, m1, m2⟩) | (refine and7 hr_ ?_; clear hr_; rintro pre acc us hs hmu hU ⟨hu1, hu2, m1, m2⟩) | (refine and6 hr_ ?_; clear hr_; rintro pre acc us hs hmu ⟨hU, hu1, hu2, m1, m2⟩) | (refine and5 hr_ ?_; clear hr_; rintro pre acc us hs ⟨hmu, hU, hu1, hu2, m1, m2⟩) | (refine and4 hr_ ?_; clear hr_; rintro pre acc us ⟨hs, hmu, hU, hu1, hu2, m1, m2⟩) | (refine and3 hr_ ?_; clear hr_; rintro pre acc ⟨us, hs, hmu, hU, hu1, hu2, m1, m2⟩) | obtain ⟨pre, acc, us, hs, hmu, hU, hu1, hu2, m1, m2⟩ := hr_) | (refine ex1 h_1 ?_; clear h_1; rintro mu₁ hr_; first | (refine and11 hr_ ?_; clear hr_; rintro F pre acc us hs hmu hU hu1 hu2 m1 m2) | (refine and10 hr_ ?_; clear hr_; rintro F pre acc us hs hmu hU hu1 hu2 ⟨m1, m2⟩) | (refine and9 hr_ ?_; clear hr_; rintro F pre acc us hs hmu hU hu1 ⟨hu2, m1, m2⟩) | (refine and8 hr_ ?_; clear hr_; rintro F pre acc us hs hmu hU ⟨hu1, hu2, m1, m2⟩) | (refine and7 hr_ ?_; clear hr_; rintro F pre acc us hs hmu ⟨hU, hu1, hu2, m1, m2⟩) | (refine and6 hr_ ?_; clear hr_; rintro F pre acc us hs ⟨hmu, hU, hu1, hu2, m1, m2⟩) | (refine and5 hr_ ?_; clear hr_; rintro F pre acc us ⟨hs, hmu, hU, hu1, hu2, m1, m2⟩) | (refine and4 hr_ ?_; clear hr_; rintro F pre acc ⟨us, hs, hmu, hU, hu1, hu2, m1, m2⟩) | (refine and3 hr_ ?_; clear hr_; rintro F pre ⟨acc, us, hs, hmu, hU, hu1, hu2, m1, m2⟩) | obtain ⟨F, pre, acc, us, hs, hmu, hU, hu1, hu2, m1, m2⟩ := hr_) | (first | (refine and12 h_1 ?_; clear h_1; rintro mu₁ F pre acc us hs hmu hU hu1 hu2 m1 m2) | (refine and11 h_1 ?_; clear h_1; rintro mu₁ F pre acc us hs hmu hU hu1 hu2 ⟨m1, m2⟩) | (refine and10 h_1 ?_; clear h_1; rintro mu₁ F pre acc us hs hmu hU hu1 ⟨hu2, m1, m2⟩) | (refine and9 h_1 ?_; clear h_1; rintro mu₁ F pre acc us hs hmu hU ⟨hu1, hu2, m1, m2⟩) | (refine and8 h_1 ?_; clear h_1; rintro mu₁ F pre acc us hs hmu ⟨hU, hu1, hu2, m1, m2⟩) | (refine and7 h_1 ?_; clear h_1; rintro mu₁ F pre acc us hs ⟨hmu, hU, hu1, hu2, m1, m2⟩) | (refine and6 h_1 ?_; clear h_1; rintro mu₁ F pre acc us ⟨hs, hmu, hU, hu1, hu2, m1, m2⟩) | (refine and5 h_1 ?_; clear h_1; rintro mu₁ F pre acc ⟨us, hs, hmu, hU, hu1, hu2, m1, m2⟩) | (refine and4 h_1 ?_; clear h_1; rintro mu₁ F pre ⟨acc, us, hs, hmu, hU, hu1, hu2, m1, m2⟩) | (refine and3 h_1 ?_; clear h_1; rintro mu₁ F ⟨pre, acc, us, hs, hmu, hU, hu1, hu2, m1, m2⟩) | obtain ⟨mu₁, F, pre, acc, us, hs, hmu, hU, hu1, hu2, m1, m2⟩ := h_1)
    refine k_ ?_
    clear k_ X_
    dsimp only at hmu m1 m2
    subst hmu
    walk_at "ms"
    rename_i a1 b1 _ _ _ q1 a2 b2 _ _ _ q2 a3 b3 _ _ _ q3 a4 b4 _ _ _ q4 a5 b5 _ _ _ q5 ql
    obtain ⟨fr, hfr⟩ : ∃ fr : Led, fr = [(ql, .lst [.ref q1, .ref q2, .ref q3, .ref q4, .ref q5]), (q5, .tup [.str "r" a5, .str "k" b5]), (q4, .tup [.str "q" a4, .str "a" b4]), (q3, .tup [.str "q" a3, .str "m" b3]), (q2, .tup [.str "p" a2, .str "k" b2]), (q1, .tup [.str "" a1, .str "k" b1]), (d, .lst fs)] := ⟨_, rfl⟩
    have hx : Each (V2 (inL fr)) attrL [.ref q1, .ref q2, .ref q3, .ref q4, .ref q5] := by
      subst hfr
      refine ⟨⟨q1, a1, b1, rfl, ?_⟩, ⟨q2, a2, b2, rfl, ?_⟩, ⟨q3, a3, b3, rfl, ?_⟩, ⟨q4, a4, b4, rfl, ?_⟩, ⟨q5, a5, b5, rfl, ?_⟩, trivial⟩
      · exact .tail _ (.tail _ (.tail _ (.tail _ (.tail _ (.head _)))))
      · exact .tail _ (.tail _ (.tail _ (.tail _ (.head _))))
      · exact .tail _ (.tail _ (.tail _ (.head _)))
      · exact .tail _ (.tail _ (.head _))
      · exact .tail _ (.head _)
    have hql : (ql, Sh.lst [.ref q1, .ref q2, .ref q3, .ref q4, .ref q5]) ∈ fr := by rw [hfr]; exact .head _
    refine w_in [(ql, .lst [.ref q1, .ref q2, .ref q3, .ref q4, .ref q5]), (q5, .tup [.str "r" a5, .str "k" b5]), (q4, .tup [.str "q" a4, .str "a" b4]), (q3, .tup [.str "q" a3, .str "m" b3]), (q2, .tup [.str "p" a2, .str "k" b2]), (q1, .tup [.str "" a1, .str "k" b1]), (d, .lst fs)] ?_
    rw [← hfr]
    refine w_call _ (fun g' h1 h2 => drawn_ok (R := V2 (inL fr)) (xs := attrL) G hA.le hs (h2 (_, _) (List.mem_append_left _ hql)) hx (by decide)) ?_
    rintro _ _ h_2
    refine hide ?_
    intro X_ k_
    first | (refine ex5 h_2 ?_; clear h_2; rintro nd ns ys2 zs2 mu₄ hr_; first | (refine and5 hr_ ?_; clear hr_; rintro rfl rfl hs₄ hN hp2) | (refine and4 hr_ ?_; clear hr_; rintro rfl rfl hs₄ ⟨hN, hp2⟩) | (refine and3 hr_ ?_; clear hr_; rintro rfl rfl ⟨hs₄, hN, hp2⟩) | obtain ⟨rfl, rfl, hs₄, hN, hp2⟩ := hr_) | (refine ex4 h_2 ?_; clear h_2; rintro nd ns ys2 zs2 hr_; first | (refine and6 hr_ ?_; clear hr_; rintro mu₄ rfl rfl hs₄ hN hp2) | (refine and5 hr_ ?_; clear hr_; rintro mu₄ rfl rfl hs₄ ⟨hN, hp2⟩) | (refine and4 hr_ ?_; clear hr_; rintro mu₄ rfl rfl ⟨hs₄, hN, hp2⟩) | (refine and3 hr_ ?_; clear hr_; rintro mu₄ rfl ⟨rfl, hs₄, hN, hp2⟩) | obtain ⟨mu₄, rfl, rfl, hs₄, hN, hp2⟩ := hr_) | (refine ex3 h_2 ?_; clear h_2; rintro nd ns ys2 hr_; first | (refine and7 hr_ ?_; clear hr_; rintro zs2 mu₄ rfl rfl hs₄ hN hp2) | (refine and6 hr_ ?_; clear hr_; rintro zs2 mu₄ rfl rfl hs₄ ⟨hN, hp2⟩) | (refine and5 hr_ ?_; clear hr_; rintro zs2 mu₄ rfl rfl ⟨hs₄, hN, hp2⟩) | (refine and4 hr_ ?_; clear hr_; rintro zs2 mu₄ rfl ⟨rfl, hs₄, hN, hp2⟩) | (refine and3 hr_ ?_; clear hr_; rintro zs2 mu₄ ⟨rfl, rfl, hs₄, hN, hp2⟩) | obtain ⟨zs2, mu₄, rfl, rfl, hs₄, hN, hp2⟩ := hr_) | (refine ex2 h_2 ?_; clear h_2; rintro nd ns hr_; first | (refine and8 hr_ ?_; clear hr_; rintro ys2 zs2 mu₄ rfl rfl hs₄ hN hp2) | (refine and7 hr_ ?_; clear hr_; rintro ys2 zs2 mu₄ rfl rfl hs₄ ⟨hN, hp2⟩) | (refine and6 hr_ ?_; clear hr_; rintro ys2 zs2 mu₄ rfl rfl ⟨hs₄, hN, hp2⟩) | (refine and5 hr_ ?_; clear hr_; rintro ys2 zs2 mu₄ rfl ⟨rfl, hs₄, hN, hp2⟩) | (refine and4 hr_ ?_; clear hr_; rintro ys2 zs2 mu₄ ⟨rfl, rfl, hs₄, hN, hp2⟩) | (refine and3 hr_ ?_; clear hr_; rintro ys2 zs2 ⟨mu₄, rfl, rfl, hs₄, hN, hp2⟩) | obtain ⟨ys2, zs2, mu₄, rfl, rfl, hs₄, hN, hp2⟩ := hr_) | (refine ex1 h_2 ?_; clear h_2; rintro nd hr_; first | (refine and9 hr_ ?_; clear hr_; rintro ns ys2 zs2 mu₄ rfl rfl hs₄ hN hp2) | (refine and8 hr_ ?_; clear hr_; rintro ns ys2 zs2 mu₄ rfl rfl hs₄ ⟨hN, hp2⟩) | (refine and7 hr_ ?_; clear hr_; rintro ns ys2 zs2 mu₄ rfl rfl ⟨hs₄, hN, hp2⟩) | (refine and6 hr_ ?_; clear hr_; rintro ns ys2 zs2 mu₄ rfl ⟨rfl, hs₄, hN, hp2⟩) | (refine and5 hr_ ?_; clear hr_; rintro ns ys2 zs2 mu₄ ⟨rfl, rfl, hs₄, hN, hp2⟩) | (refine and4 hr_ ?_; clear hr_; rintro ns ys2 zs2 ⟨mu₄, rfl, rfl, hs₄, hN, hp2⟩) | (refine and3 hr_ ?_; clear hr_; rintro ns ys2 ⟨zs2, mu₄, rfl, rfl, hs₄, hN, hp2⟩) | obtain ⟨ns, ys2, zs2, mu₄, rfl, rfl, hs₄, hN, hp2⟩ := hr_) | (first | (refine and10 h_2 ?_; clear h_2; rintro nd ns ys2 zs2 mu₄ rfl rfl hs₄ hN hp2) | (refine and9 h_2 ?_; clear h_2; rintro nd ns ys2 zs2 mu₄ rfl rfl hs₄ ⟨hN, hp2⟩) | (refine and8 h_2 ?_; clear h_2; rintro nd ns ys2 zs2 mu₄ rfl rfl ⟨hs₄, hN, hp2⟩) | (refine and7 h_2 ?_; clear h_2; rintro nd ns ys2 zs2 mu₄ rfl ⟨rfl, hs₄, hN, hp2⟩) | (refine and6 h_2 ?_; clear h_2; rintro nd ns ys2 zs2 mu₄ ⟨rfl, rfl, hs₄, hN, hp2⟩) | (refine and5 h_2 ?_; clear h_2; rintro nd ns ys2 zs2 ⟨mu₄, rfl, rfl, hs₄, hN, hp2⟩) | (refine and4 h_2 ?_; clear h_2; rintro nd ns ys2 ⟨zs2, mu₄, rfl, rfl, hs₄, hN, hp2⟩) | (refine and3 h_2 ?_; clear h_2; rintro nd ns ⟨ys2, zs2, mu₄, rfl, rfl, hs₄, hN, hp2⟩) | obtain ⟨nd, ns, ys2, zs2, mu₄, rfl, rfl, hs₄, hN, hp2⟩ := h_2)
    refine k_ ?_
    clear k_ X_
    walk_at "ms"
    have hO1 : us.map (·.1) = ys := by rw [hu1, ← hF'.len, List.take_length]
    have hO2 := hu2
    obtain ⟨X, hX⟩ : ∃ X : Led, X = fr ++ (pre ++ (gu, .lst F) :: acc) := ⟨_, rfl⟩
    have hfX : ∀ p ∈ fr, p ∈ X := fun p hp => by rw [hX]; exact List.mem_append_left _ hp
    have hgX : (gu, Sh.lst F) ∈ X := by rw [hX]; exact List.mem_append_right _ (List.mem_append_right _ (.head _))
    have hUX : Each (V2 (inL X)) us F := hU.mono (V2.monoT fun a vs h => by
      rw [hX]
      refine List.mem_append_right _ ?_
      rcases List.mem_append.mp h with h | h
      · exact List.mem_append_left _ h
      · exact List.mem_append_right _ (.tail _ h))
    refine w_assignComp (cl := [("source", L + 1)]) ?_ (by rfl) (by rfl) (by decide) (by rfl) (by decide +kernel)
    walk_at "ms"
    refine ⟨[(nd, .lst ns)], _, mu₄ ++ ([] ++ X), ns.length, fun i v => ns[i]? = some v, fun i vs mu => ∃ pre0 mu₁ pre us, SrcLed sr mu₁ ∧ mu = pre0 ++ (mu₁ ++ (pre ++ X)) ∧ Each (V3 (inL (pre0 ++ pre))) us vs ∧ us.map (fun p => (p.1, p.2.1)) = ys2.take i ∧ (∀ p ∈ us, p.2.2 ∈ wordL), by rw [hX]; rfl, src_lst hh (.inr (.head _)) fun _ => dr_tupL, ⟨[], mu₄, [], [], hs₄, rfl, trivial, rfl, fun _ h => absurd h List.not_mem_nil⟩, ?turn2, ?len2, ?fin2⟩
    case len2 =>
      rintro i vs mu h_3 hi
      refine hide ?_
      intro X_ k_
      first | (refine ex5 h_3 ?_; clear h_3; rintro pre0 mu₁ pre2 us2 hs hr_; first | (refine and4 hr_ ?_; clear hr_; rintro rfl hU hu1 hu2) | (refine and3 hr_ ?_; clear hr_; rintro rfl hU ⟨hu1, hu2⟩) | obtain ⟨rfl, hU, hu1, hu2⟩ := hr_) | (refine ex4 h_3 ?_; clear h_3; rintro pre0 mu₁ pre2 us2 hr_; first | (refine and5 hr_ ?_; clear hr_; rintro hs rfl hU hu1 hu2) | (refine and4 hr_ ?_; clear hr_; rintro hs rfl hU ⟨hu1, hu2⟩) | (refine and3 hr_ ?_; clear hr_; rintro hs rfl ⟨hU, hu1, hu2⟩) | obtain ⟨hs, rfl, hU, hu1, hu2⟩ := hr_) | (refine ex3 h_3 ?_; clear h_3; rintro pre0 mu₁ pre2 hr_; first | (refine and6 hr_ ?_; clear hr_; rintro us2 hs rfl hU hu1 hu2) | (refine and5 hr_ ?_; clear hr_; rintro us2 hs rfl hU ⟨hu1, hu2⟩) | (refine and4 hr_ ?_; clear hr_; rintro us2 hs rfl ⟨hU, hu1, hu2⟩) | (refine and3 hr_ ?_; clear hr_; rintro us2 hs ⟨rfl, hU, hu1, hu2⟩) | obtain ⟨us2, hs, rfl, hU, hu1, hu2⟩ := hr_) | (refine ex2 h_3 ?_; clear h_3; rintro pre0 mu₁ hr_; first | (refine and7 hr_ ?_; clear hr_; rintro pre2 us2 hs rfl hU hu1 hu2) | (refine and6 hr_ ?_; clear hr_; rintro pre2 us2 hs rfl hU ⟨hu1, hu2⟩) | (refine and5 hr_ ?_; clear hr_; rintro pre2 us2 hs rfl ⟨hU, hu1, hu2⟩) | (refine and4 hr_ ?_; clear hr_; rintro pre2 us2 hs ⟨rfl, hU, hu1, hu2⟩) | (refine and3 hr_ ?_; clear hr_; rintro pre2 us2 ⟨hs, rfl, hU, hu1, hu2⟩) | obtain ⟨pre2, us2, hs, rfl, hU, hu1, hu2⟩ := hr_) | (refine ex1 h_3 ?_; clear h_3; rintro pre0 hr_; first | (refine and8 hr_ ?_; clear hr_; rintro mu₁ pre2 us2 hs rfl hU hu1 hu2) | (refine and7 hr_ ?_; clear hr_; rintro mu₁ pre2 us2 hs rfl hU ⟨hu1, hu2⟩) | (refine and6 hr_ ?_; clear hr_; rintro mu₁ pre2 us2 hs rfl ⟨hU, hu1, hu2⟩) | (refine and5 hr_ ?_; clear hr_; rintro mu₁ pre2 us2 hs ⟨rfl, hU, hu1, hu2⟩) | (refine and4 hr_ ?_; clear hr_; rintro mu₁ pre2 us2 ⟨hs, rfl, hU, hu1, hu2⟩) | (refine and3 hr_ ?_; clear hr_; rintro mu₁ pre2 ⟨us2, hs, rfl, hU, hu1, hu2⟩) | obtain ⟨mu₁, pre2, us2, hs, rfl, hU, hu1, hu2⟩ := hr_) | (first | (refine and9 h_3 ?_; clear h_3; rintro pre0 mu₁ pre2 us2 hs rfl hU hu1 hu2) | (refine and8 h_3 ?_; clear h_3; rintro pre0 mu₁ pre2 us2 hs rfl hU ⟨hu1, hu2⟩) | (refine and7 h_3 ?_; clear h_3; rintro pre0 mu₁ pre2 us2 hs rfl ⟨hU, hu1, hu2⟩) | (refine and6 h_3 ?_; clear h_3; rintro pre0 mu₁ pre2 us2 hs ⟨rfl, hU, hu1, hu2⟩) | (refine and5 h_3 ?_; clear h_3; rintro pre0 mu₁ pre2 us2 ⟨hs, rfl, hU, hu1, hu2⟩) | (refine and4 h_3 ?_; clear h_3; rintro pre0 mu₁ pre2 ⟨us2, hs, rfl, hU, hu1, hu2⟩) | (refine and3 h_3 ?_; clear h_3; rintro pre0 mu₁ ⟨pre2, us2, hs, rfl, hU, hu1, hu2⟩) | obtain ⟨pre0, mu₁, pre2, us2, hs, rfl, hU, hu1, hu2⟩ := h_3)
      refine k_ ?_
      clear k_ X_
      have e1 := hU.len
      have e2 := congrArg List.length hu1
      have e3 : (ys2.take i).length ≤ ys2.length := List.length_take_le' i ys2
      have e4 := hp2.length_eq
      rw [List.length_map] at e2
      rw [List.length_append] at e4
      have e5 : attrL.length = 5 := rfl
      rw [sizeLine_eq]
      omega
    case turn2 =>
      rintro i v vs mu m0 L' g' hi hv h_9 hg'
      refine hide ?_
      intro X_ k_
      first | (refine ex5 h_9 ?_; clear h_9; rintro pre0 mu₁ pre2 us2 hs hr_; first | (refine and4 hr_ ?_; clear hr_; rintro rfl hU hu1 hu2) | (refine and3 hr_ ?_; clear hr_; rintro rfl hU ⟨hu1, hu2⟩) | obtain ⟨rfl, hU, hu1, hu2⟩ := hr_) | (refine ex4 h_9 ?_; clear h_9; rintro pre0 mu₁ pre2 us2 hr_; first | (refine and5 hr_ ?_; clear hr_; rintro hs rfl hU hu1 hu2) | (refine and4 hr_ ?_; clear hr_; rintro hs rfl hU ⟨hu1, hu2⟩) | (refine and3 hr_ ?_; clear hr_; rintro hs rfl ⟨hU, hu1, hu2⟩) | obtain ⟨hs, rfl, hU, hu1, hu2⟩ := hr_) | (refine ex3 h_9 ?_; clear h_9; rintro pre0 mu₁ pre2 hr_; first | (refine and6 hr_ ?_; clear hr_; rintro us2 hs rfl hU hu1 hu2) | (refine and5 hr_ ?_; clear hr_; rintro us2 hs rfl hU ⟨hu1, hu2⟩) | (refine and4 hr_ ?_; clear hr_; rintro us2 hs rfl ⟨hU, hu1, hu2⟩) | (refine and3 hr_ ?_; clear hr_; rintro us2 hs ⟨rfl, hU, hu1, hu2⟩) | obtain ⟨us2, hs, rfl, hU, hu1, hu2⟩ := hr_) | (refine ex2 h_9 ?_; clear h_9; rintro pre0 mu₁ hr_; first | (refine and7 hr_ ?_; clear hr_; rintro pre2 us2 hs rfl hU hu1 hu2) | (refine and6 hr_ ?_; clear hr_; rintro pre2 us2 hs rfl hU ⟨hu1, hu2⟩) | (refine and5 hr_ ?_; clear hr_; rintro pre2 us2 hs rfl ⟨hU, hu1, hu2⟩) | (refine and4 hr_ ?_; clear hr_; rintro pre2 us2 hs ⟨rfl, hU, hu1, hu2⟩) | (refine and3 hr_ ?_; clear hr_; rintro pre2 us2 ⟨hs, rfl, hU, hu1, hu2⟩) | obtain ⟨pre2, us2, hs, rfl, hU, hu1, hu2⟩ := hr_) | (refine ex1 h_9 ?_; clear h_9; rintro pre0 hr_; first | (refine and8 hr_ ?_; clear hr_; rintro mu₁ pre2 us2 hs rfl hU hu1 hu2) | (refine and7 hr_ ?_; clear hr_; rintro mu₁ pre2 us2 hs rfl hU ⟨hu1, hu2⟩) | (refine and6 hr_ ?_; clear hr_; rintro mu₁ pre2 us2 hs rfl ⟨hU, hu1, hu2⟩) | (refine and5 hr_ ?_; clear hr_; rintro mu₁ pre2 us2 hs ⟨rfl, hU, hu1, hu2⟩) | (refine and4 hr_ ?_; clear hr_; rintro mu₁ pre2 us2 ⟨hs, rfl, hU, hu1, hu2⟩) | (refine and3 hr_ ?_; clear hr_; rintro mu₁ pre2 ⟨us2, hs, rfl, hU, hu1, hu2⟩) | obtain ⟨mu₁, pre2, us2, hs, rfl, hU, hu1, hu2⟩ := hr_) | (first | (refine and9 h_9 ?_; clear h_9; rintro pre0 mu₁ pre2 us2 hs rfl hU hu1 hu2) | (refine and8 h_9 ?_; clear h_9; rintro pre0 mu₁ pre2 us2 hs rfl hU ⟨hu1, hu2⟩) | (refine and7 h_9 ?_; clear h_9; rintro pre0 mu₁ pre2 us2 hs rfl ⟨hU, hu1, hu2⟩) | (refine and6 h_9 ?_; clear h_9; rintro pre0 mu₁ pre2 us2 hs ⟨rfl, hU, hu1, hu2⟩) | (refine and5 h_9 ?_; clear h_9; rintro pre0 mu₁ pre2 us2 ⟨hs, rfl, hU, hu1, hu2⟩) | (refine and4 h_9 ?_; clear h_9; rintro pre0 mu₁ pre2 ⟨us2, hs, rfl, hU, hu1, hu2⟩) | (refine and3 h_9 ?_; clear h_9; rintro pre0 mu₁ ⟨pre2, us2, hs, rfl, hU, hu1, hu2⟩) | obtain ⟨pre0, mu₁, pre2, us2, hs, rfl, hU, hu1, hu2⟩ := h_9)
      refine k_ ?_
      clear k_ X_
      refine hide ?_
      intro X_ k_
      first | (refine ex5 (hN.get' hv) ?_; rintro p hpi q tp tq hr_; first | obtain ⟨rfl, hq⟩ := hr_) | (refine ex4 (hN.get' hv) ?_; rintro p hpi q tp hr_; first | (refine and3 hr_ ?_; clear hr_; rintro tq rfl hq) | obtain ⟨tq, rfl, hq⟩ := hr_) | (refine ex3 (hN.get' hv) ?_; rintro p hpi q hr_; first | (refine and4 hr_ ?_; clear hr_; rintro tp tq rfl hq) | (refine and3 hr_ ?_; clear hr_; rintro tp tq ⟨rfl, hq⟩) | obtain ⟨tp, tq, rfl, hq⟩ := hr_) | (refine ex2 (hN.get' hv) ?_; rintro p hpi hr_; first | (refine and5 hr_ ?_; clear hr_; rintro q tp tq rfl hq) | (refine and4 hr_ ?_; clear hr_; rintro q tp tq ⟨rfl, hq⟩) | (refine and3 hr_ ?_; clear hr_; rintro q tp ⟨tq, rfl, hq⟩) | obtain ⟨q, tp, tq, rfl, hq⟩ := hr_) | (refine ex1 (hN.get' hv) ?_; rintro p hr_; first | (refine and6 hr_ ?_; clear hr_; rintro hpi q tp tq rfl hq) | (refine and5 hr_ ?_; clear hr_; rintro hpi q tp tq ⟨rfl, hq⟩) | (refine and4 hr_ ?_; clear hr_; rintro hpi q tp ⟨tq, rfl, hq⟩) | (refine and3 hr_ ?_; clear hr_; rintro hpi q ⟨tp, tq, rfl, hq⟩) | obtain ⟨hpi, q, tp, tq, rfl, hq⟩ := hr_) | (first | (refine and7 (hN.get' hv) ?_; rintro p hpi q tp tq rfl hq) | (refine and6 (hN.get' hv) ?_; rintro p hpi q tp tq ⟨rfl, hq⟩) | (refine and5 (hN.get' hv) ?_; rintro p hpi q tp ⟨tq, rfl, hq⟩) | (refine and4 (hN.get' hv) ?_; rintro p hpi q ⟨tp, tq, rfl, hq⟩) | (refine and3 (hN.get' hv) ?_; rintro p hpi ⟨q, tp, tq, rfl, hq⟩) | obtain ⟨p, hpi, q, tp, tq, rfl, hq⟩ := (hN.get' hv))
      refine k_ ?_
      clear k_ X_
      refine w_in pre0 ?_
      have hq' : (q, Sh.tup [.str p.1 tp, .str p.2 tq]) ∈ mu₁ ++ (pre0 ++ (pre2 ++ X)) := List.mem_append_right _ (List.mem_append_right _ (List.mem_append_right _ (hfX _ hq)))
      have kc2 : g' (L + 1) (.cell (some (.ref sr))) := hg' _ _ (.inl kc)
      walk_at "ms"
      refine w_call (mu := []) _ (fun g' _ _ => words_ok G hA.le) ?_
      rintro _ _ h_2
      refine hide ?_
      intro X_ k_
      first | (refine ex2 h_2 ?_; clear h_2; rintro wl ws hr_; first | (refine and3 hr_ ?_; clear hr_; rintro rfl rfl hW) | obtain ⟨rfl, rfl, hW⟩ := hr_) | (refine ex1 h_2 ?_; clear h_2; rintro wl hr_; first | (refine and4 hr_ ?_; clear hr_; rintro ws rfl rfl hW) | (refine and3 hr_ ?_; clear hr_; rintro ws rfl ⟨rfl, hW⟩) | obtain ⟨ws, rfl, rfl, hW⟩ := hr_) | (first | (refine and5 h_2 ?_; clear h_2; rintro wl ws rfl rfl hW) | (refine and4 h_2 ?_; clear h_2; rintro wl ws rfl ⟨rfl, hW⟩) | (refine and3 h_2 ?_; clear h_2; rintro wl ws ⟨rfl, rfl, hW⟩) | obtain ⟨wl, ws, rfl, rfl, hW⟩ := h_2)
      refine k_ ?_
      clear k_ X_
      walk_at "ms"
      refine w_in [_] ?_
      refine w_call _ (fun g' h1 h2 => next_ok G hA.le (top := 6) (by omega) (by omega) hs) ?_
      rintro _ mu₃ h_2
      refine hide ?_
      intro X_ k_
      first | obtain ⟨⟨j, hj, tj, rfl⟩, hs₃⟩ := h_2
      refine k_ ?_
      clear k_ X_
      obtain ⟨wd, hwd⟩ : ∃ wd, wordL[j]? = some wd := ⟨_, List.getElem?_eq_getElem (by show j < 6; exact hj)⟩
      refine hide ?_
      intro X_ k_
      first | (refine ex3 (hW.get hwd) ?_; rintro y hy tw rfl) | (refine ex2 (hW.get hwd) ?_; rintro y hy hr_; first | obtain ⟨tw, rfl⟩ := hr_) | (refine ex1 (hW.get hwd) ?_; rintro y hr_; first | (refine and3 hr_ ?_; clear hr_; rintro hy tw rfl) | obtain ⟨hy, tw, rfl⟩ := hr_) | (first | (refine and4 (hW.get hwd) ?_; rintro y hy tw rfl) | (refine and3 (hW.get hwd) ?_; rintro y hy ⟨tw, rfl⟩) | obtain ⟨y, hy, tw, rfl⟩ := (hW.get hwd))
      refine k_ ?_
      clear k_ X_
      refine w_itemLst (kn_mu (List.mem_append_right _ (.head _))) (Int.natCast_nonneg _) (by simpa using hy) (by rw [← hW.len, sizeLine_eq]; show (6 : Nat) ≤ _; decide) ?_ sub_call
      walk_at "ms"
      rename_i tt
      refine ⟨[(tt, .tup [.str p.1 tp, .str p.2 tq, .str wd tw])], mu₃, (wl, .lst ws) :: (pre0 ++ pre2), us2 ++ [(p.1, p.2, wd)], hs₃, by simp [List.append_assoc], ?_, ?_, ?_⟩
      · exact Each.snoc (hU.mono (V3.monoT fun a vs h => .tail _ (.tail _ h))) ⟨tt, tp, tq, tw, rfl, .head _⟩
      · rw [List.map_append, hu1, List.take_add_one, hpi]
        rfl
      · intro r hr
        rcases List.mem_append.mp hr with hr | hr
        · exact hu2 r hr
        · rw [List.mem_singleton.mp hr]
          exact List.mem_of_getElem? hwd
    case fin2 =>
      rintro D vs mu h_3 g' hg'
      refine hide ?_
      intro X_ k_
      first | (refine ex5 h_3 ?_; clear h_3; rintro pre0 mu₁ pre2 us2 hs hr_; first | (refine and4 hr_ ?_; clear hr_; rintro rfl hU hu1 hu2) | (refine and3 hr_ ?_; clear hr_; rintro rfl hU ⟨hu1, hu2⟩) | obtain ⟨rfl, hU, hu1, hu2⟩ := hr_) | (refine ex4 h_3 ?_; clear h_3; rintro pre0 mu₁ pre2 us2 hr_; first | (refine and5 hr_ ?_; clear hr_; rintro hs rfl hU hu1 hu2) | (refine and4 hr_ ?_; clear hr_; rintro hs rfl hU ⟨hu1, hu2⟩) | (refine and3 hr_ ?_; clear hr_; rintro hs rfl ⟨hU, hu1, hu2⟩) | obtain ⟨hs, rfl, hU, hu1, hu2⟩ := hr_) | (refine ex3 h_3 ?_; clear h_3; rintro pre0 mu₁ pre2 hr_; first | (refine and6 hr_ ?_; clear hr_; rintro us2 hs rfl hU hu1 hu2) | (refine and5 hr_ ?_; clear hr_; rintro us2 hs rfl hU ⟨hu1, hu2⟩) | (refine and4 hr_ ?_; clear hr_; rintro us2 hs rfl ⟨hU, hu1, hu2⟩) | (refine and3 hr_ ?_; clear hr_; rintro us2 hs ⟨rfl, hU, hu1, hu2⟩) | obtain ⟨us2, hs, rfl, hU, hu1, hu2⟩ := hr_) | (refine ex2 h_3 ?_; clear h_3; rintro pre0 mu₁ hr_; first | (refine and7 hr_ ?_; clear hr_; rintro pre2 us2 hs rfl hU hu1 hu2) | (refine and6 hr_ ?_; clear hr_; rintro pre2 us2 hs rfl hU ⟨hu1, hu2⟩) | (refine and5 hr_ ?_; clear hr_; rintro pre2 us2 hs rfl ⟨hU, hu1, hu2⟩) | (refine and4 hr_ ?_; clear hr_; rintro pre2 us2 hs ⟨rfl, hU, hu1, hu2⟩) | (refine and3 hr_ ?_; clear hr_; rintro pre2 us2 ⟨hs, rfl, hU, hu1, hu2⟩) | obtain ⟨pre2, us2, hs, rfl, hU, hu1, hu2⟩ := hr_) | (refine ex1 h_3 ?_; clear h_3; rintro pre0 hr_; first | (refine and8 hr_ ?_; clear hr_; rintro mu₁ pre2 us2 hs rfl hU hu1 hu2) | (refine and7 hr_ ?_; clear hr_; rintro mu₁ pre2 us2 hs rfl hU ⟨hu1, hu2⟩) | (refine and6 hr_ ?_; clear hr_; rintro mu₁ pre2 us2 hs rfl ⟨hU, hu1, hu2⟩) | (refine and5 hr_ ?_; clear hr_; rintro mu₁ pre2 us2 hs ⟨rfl, hU, hu1, hu2⟩) | (refine and4 hr_ ?_; clear hr_; rintro mu₁ pre2 us2 ⟨hs, rfl, hU, hu1, hu2⟩) | (refine and3 hr_ ?_; clear hr_; rintro mu₁ pre2 ⟨us2, hs, rfl, hU, hu1, hu2⟩) | obtain ⟨mu₁, pre2, us2, hs, rfl, hU, hu1, hu2⟩ := hr_) | (first | (refine and9 h_3 ?_; clear h_3; rintro pre0 mu₁ pre2 us2 hs rfl hU hu1 hu2) | (refine and8 h_3 ?_; clear h_3; rintro pre0 mu₁ pre2 us2 hs rfl hU ⟨hu1, hu2⟩) | (refine and7 h_3 ?_; clear h_3; rintro pre0 mu₁ pre2 us2 hs rfl ⟨hU, hu1, hu2⟩) | (refine and6 h_3 ?_; clear h_3; rintro pre0 mu₁ pre2 us2 hs ⟨rfl, hU, hu1, hu2⟩) | (refine and5 h_3 ?_; clear h_3; rintro pre0 mu₁ pre2 us2 ⟨hs, rfl, hU, hu1, hu2⟩) | (refine and4 h_3 ?_; clear h_3; rintro pre0 mu₁ pre2 ⟨us2, hs, rfl, hU, hu1, hu2⟩) | (refine and3 h_3 ?_; clear h_3; rintro pre0 mu₁ ⟨pre2, us2, hs, rfl, hU, hu1, hu2⟩) | obtain ⟨pre0, mu₁, pre2, us2, hs, rfl, hU, hu1, hu2⟩ := h_3)
      refine k_ ?_
      clear k_ X_
      walk_at "m1"
      walk_at "m1"
      dsimp only
      walk_at "ms"
      rename_i s1 s2 s3 _ _ _ nl
      obtain ⟨nm, tn, hn1, hn2⟩ : ∃ nm tn, [Value.str "e" s1, .str "q:c" s2, .str "c" s3][i₀]? = some (.str nm tn) ∧ nameL[i₀]? = some nm := by
        obtain rfl | rfl | rfl : i₀ = 0 ∨ i₀ = 1 ∨ i₀ = 2 := by omega
        · exact ⟨_, _, rfl, rfl⟩
        · exact ⟨_, _, rfl, rfl⟩
        · exact ⟨_, _, rfl, rfl⟩
      refine w_itemLst (kn_mu (.head _)) (Int.natCast_nonneg _) (by simpa using hn1) (by rw [sizeLine_eq]; show (3 : Nat) ≤ _; decide) ?_ sub_name
      walk_at "ms"
      refine w_call (mu := []) _ (fun g' _ _ => words_ok G hA.le) ?_
      rintro _ _ h_2
      refine hide ?_
      intro X_ k_
      first | (refine ex2 h_2 ?_; clear h_2; rintro wl ws hr_; first | (refine and3 hr_ ?_; clear hr_; rintro rfl rfl hW) | obtain ⟨rfl, rfl, hW⟩ := hr_) | (refine ex1 h_2 ?_; clear h_2; rintro wl hr_; first | (refine and4 hr_ ?_; clear hr_; rintro ws rfl rfl hW) | (refine and3 hr_ ?_; clear hr_; rintro ws rfl ⟨rfl, hW⟩) | obtain ⟨ws, rfl, rfl, hW⟩ := hr_) | (first | (refine and5 h_2 ?_; clear h_2; rintro wl ws rfl rfl hW) | (refine and4 h_2 ?_; clear h_2; rintro wl ws rfl ⟨rfl, hW⟩) | (refine and3 h_2 ?_; clear h_2; rintro wl ws ⟨rfl, rfl, hW⟩) | obtain ⟨wl, ws, rfl, rfl, hW⟩ := h_2)
      refine k_ ?_
      clear k_ X_
      walk_at "ms"
      refine w_in ((wl, .lst ws) :: (nl, .lst [.str "e" s1, .str "q:c" s2, .str "c" s3]) :: (nd, .lst ns) :: (D, .lst vs) :: pre0) ?_
      refine w_call _ (fun g' h1 h2 => next_ok G hA.le (top := 6) (by omega) (by omega) hs) ?_
      rintro _ mu₃ h_2
      refine hide ?_
      intro X_ k_
      first | obtain ⟨⟨j, hj, tj, rfl⟩, hs₃⟩ := h_2
      refine k_ ?_
      clear k_ X_
      obtain ⟨wd, hwd⟩ : ∃ wd, wordL[j]? = some wd := ⟨_, List.getElem?_eq_getElem (by show j < 6; exact hj)⟩
      refine hide ?_
      intro X_ k_
      first | (refine ex3 (hW.get hwd) ?_; rintro y hy tw rfl) | (refine ex2 (hW.get hwd) ?_; rintro y hy hr_; first | obtain ⟨tw, rfl⟩ := hr_) | (refine ex1 (hW.get hwd) ?_; rintro y hr_; first | (refine and3 hr_ ?_; clear hr_; rintro hy tw rfl) | obtain ⟨hy, tw, rfl⟩ := hr_) | (first | (refine and4 (hW.get hwd) ?_; rintro y hy tw rfl) | (refine and3 (hW.get hwd) ?_; rintro y hy ⟨tw, rfl⟩) | obtain ⟨y, hy, tw, rfl⟩ := (hW.get hwd))
      refine k_ ?_
      clear k_ X_
      refine w_itemLst (kn_mu (List.mem_append_right _ (.head _))) (Int.natCast_nonneg _) (by simpa using hy) (by rw [← hW.len, sizeLine_eq]; show (6 : Nat) ≤ _; decide) ?_ sub_call
      walk_at "ms"
      rename_i rt
      refine ⟨⟨nm, us, us2, wd⟩, [(L + 1, .cell (some (.ref sr))), (rt, .tup [.str nm tn, .ref gu, .ref D, .str wd tw])], mu₃, _, rfl, hs₃, ?_, hn2, ?_⟩
      · refine ⟨List.mem_of_getElem? hn2, ⟨zs, ?_⟩, hO2, ⟨zs2, ?_⟩, hu2, List.mem_of_getElem? hwd⟩
        · show (us.map (·.1) ++ zs).Perm prefL
          rw [hO1]; exact hp
        · show (us2.map (fun p => (p.1, p.2.1)) ++ zs2).Perm attrL
          rw [hu1, ← hN.len, List.take_length]; exact hp2
      · refine ⟨rt, tn, gu, F, D, vs, tw, rfl, .tail _ (.head _), ?_, hUX.mono (V2.monoT fun a vs h => ?_), ?_, hU.mono (V3.monoT fun a vs h => ?_)⟩
        · exact .tail _ (.tail _ (.tail _ (.tail _ (.tail _ (.tail _ (List.mem_append_right pre0 (List.mem_append_right pre2 hgX)))))))
        · exact .tail _ (.tail _ (.tail _ (.tail _ (.tail _ (.tail _ (List.mem_append_right pre0 (List.mem_append_right pre2 h)))))))
        · exact .tail _ (.tail _ (.tail _ (.tail _ (.tail _ (.head _)))))
        · refine .tail _ (.tail _ (.tail _ (.tail _ (.tail _ (.tail _ ?_)))))
          rcases List.mem_append.mp h with h | h
          · exact List.mem_append_left (pre2 ++ X) h
          · exact List.mem_append_right pre0 (List.mem_append_left X h)
end
end Mine
end -- F6

section -- F7
open PySem PySem.W PySem.Calls PyProof.Rows PySem.Builtin
namespace Mine
section
variable {prog : Program} {w : World} {O : Heap} {A : Around} {P : Params} {mg mb : Str → Option Value} {g : Kn}

noncomputable def tabL (b : Bool) : List (Str × Str) := if b then [("&", "&amp;"), ("<", "&lt;"), ("\r", "&#xD;"), ("\"", "&quot;"), ("\t", "&#x9;"), ("\n", "&#xA;")] else [("&", "&amp;"), ("<", "&lt;"), ("\r", "&#xD;"), (">", "&gt;")]
noncomputable def signOf (b : Bool) (c : Nat) : Str := (look (tabL b) ⟨#[c]⟩).getD ⟨#[c]⟩
noncomputable def signsOf (b : Bool) (x : Str) : Str := Txt.join "" (x.cps.toList.map (signOf b))

theorem signs_ok (G : Gnd (hk.heap_1 P) O mg mb) (hA : Amb A 2) {x : Str} {t : Tok} {b : Bool} (hj : JoinOk "" (x.cps.toList.map (signOf b)) = true) (hz : x.cps.size ≤ 1000) :
    Calls prog w O A (.ref 399) [.str x t, .bool b] g [] (fun v _ => SV (signsOf b x) v) := by
  refine Calls.fnC (n := 1) [("text", .str x t), ("is_value", .bool b)] (over "is_value" (.bool b) (over "text" (.str x t) fun _ => none)) (fun L => [(L + 1, .cell none)]) G hA (by k_is) (by k_is) (fun _ _ => BindsTo.of_eq rfl) (by kernel_rfl) (by decide +kernel) (by kernel_rfl) (by intro L; kernel_rfl) ?_ (by rfl) (by rfl) (by rfl)
  intro L s env c hA G
  have hh : c.A.handled = none := hA.handled
  walk_at "ms"
  walk_at "mdict"
  intro D
  walk_at "ms"
  rename_i t1 t2 t3 t4 t5 t6
  refine ⟨[("&", .str "&amp;" t2), ("<", .str "&lt;" t4), ("\r", .str "&#xD;" t6)], [(L + 1, .cell none)], ⟨⟨_, rfl⟩, rfl, ⟨_, rfl⟩, rfl, ⟨_, rfl⟩, rfl, trivial⟩, rfl, ?_⟩
  have e0 : merged [] [(Str.ofString "&", Value.str "&amp;" t2), (Str.ofString "<", .str "&lt;" t4), (Str.ofString "\r", .str "&#xD;" t6)] = [(Str.ofString "&", Value.str "&amp;" t2), (Str.ofString "<", .str "&lt;" t4), (Str.ofString "\r", .str "&#xD;" t6)] := by kernel_rfl
  rw [e0]
  walk_at "ms"
  refine w_storeC (a := L + 1) (by with_unfolding_all rfl) (Up.tail Up.head) ?_
  refine Seq.next ?_
  refine w_seq (W.mono (Q := fun fl st => fl = .next ∧ ∃ pre kvs, st = ⟨over "is_value" (.bool b) (over "text" (.str x t) fun _ => none), pre ++ [(D, .dct kvs), (L + 1, .cell (some (.ref D)))]⟩ ∧ DctIs (tabL b) kvs) ?_ ?_)
  · refine w_if ?_
    walk_at "ms"
    refine Br.of (fun hb => ?_) (fun hb => ?_)
    · subst hb
      walk_at "ms"
      walk_at "md_update"
      walk_at "ms"
      walk_at "mdict"
      intro D2
      walk_at "ms"
      rename_i s1 s2 s3 s4 s5 s6
      refine ⟨[("\"", .str "&quot;" s2), ("\t", .str "&#x9;" s4), ("\n", .str "&#xA;" s6)], _, ⟨⟨_, rfl⟩, rfl, ⟨_, rfl⟩, rfl, ⟨_, rfl⟩, rfl, trivial⟩, rfl, ?_⟩
      have e2 : merged [] [(Str.ofString "\"", Value.str "&quot;" s2), (Str.ofString "\t", .str "&#x9;" s4), (Str.ofString "\n", .str "&#xA;" s6)] = [(Str.ofString "\"", Value.str "&quot;" s2), (Str.ofString "\t", .str "&#x9;" s4), (Str.ofString "\n", .str "&#xA;" s6)] := by kernel_rfl
      rw [e2]
      walk_at "ms"
      refine w_updateDct2 Up.head (by show (3 + 3 : Nat) ≤ 1000; decide) ?_
      walk_at "ms"
      refine ⟨rfl, [_], _, rfl, ?_⟩
      have e1 : merged [(Str.ofString "&", Value.str "&amp;" t2), (Str.ofString "<", .str "&lt;" t4), (Str.ofString "\r", .str "&#xD;" t6)] [(Str.ofString "\"", Value.str "&quot;" s2), (Str.ofString "\t", .str "&#x9;" s4), (Str.ofString "\n", .str "&#xA;" s6)] = [(Str.ofString "&", Value.str "&amp;" t2), (Str.ofString "<", .str "&lt;" t4), (Str.ofString "\r", .str "&#xD;" t6), (Str.ofString "\"", .str "&quot;" s2), (Str.ofString "\t", .str "&#x9;" s4), (Str.ofString "\n", .str "&#xA;" s6)] := by kernel_rfl
      rw [e1]
      exact ⟨⟨rfl, _, rfl⟩, ⟨rfl, _, rfl⟩, ⟨rfl, _, rfl⟩, ⟨rfl, _, rfl⟩, ⟨rfl, _, rfl⟩, ⟨rfl, _, rfl⟩, trivial⟩
    · subst hb
      walk_at "ms"
      rename_i s1 s2
      refine w_setDct Up.head (by show (3 : Nat) ≤ 1000; decide) ?_
      walk_at "ms"
      refine ⟨rfl, [], _, rfl, ?_⟩
      have e1 : stored [(Str.ofString "&", Value.str "&amp;" t2), (Str.ofString "<", .str "&lt;" t4), (Str.ofString "\r", .str "&#xD;" t6)] (Str.ofString ">") (.str "&gt;" s1) = [(Str.ofString "&", Value.str "&amp;" t2), (Str.ofString "<", .str "&lt;" t4), (Str.ofString "\r", .str "&#xD;" t6), (Str.ofString ">", .str "&gt;" s1)] := by kernel_rfl
      rw [e1]
      exact ⟨⟨rfl, _, rfl⟩, ⟨rfl, _, rfl⟩, ⟨rfl, _, rfl⟩, ⟨rfl, _, rfl⟩, trivial⟩
  · rintro _ _ h_2
    refine hide ?_
    intro X_ k_
    first | (first | (refine and5 h_2 ?_; clear h_2; rintro rfl pre kvs rfl hD) | (refine and4 h_2 ?_; clear h_2; rintro rfl pre kvs ⟨rfl, hD⟩) | (refine and3 h_2 ?_; clear h_2; rintro rfl pre ⟨kvs, rfl, hD⟩) | obtain ⟨rfl, pre, kvs, rfl, hD⟩ := h_2)
    refine k_ ?_
    clear k_ X_
    walk_at "ms"
    refine w_comp (cl := [("table", L + 1)]) ?_ (by rfl) (by decide) (by rfl) (by decide +kernel)
    walk_at "ms"
    refine ⟨[], _, pre ++ [(D, .dct kvs), (L + 1, .cell (some (.ref D)))], x.cps.size, SignAt x, fun i vs mu => mu = pre ++ [(D, .dct kvs), (L + 1, .cell (some (.ref D)))] ∧ Each SV ((x.cps.toList.map (signOf b)).take i) vs, rfl, src_str hh, ⟨rfl, trivial⟩, ?turn, ?len, ?fin⟩
    case len =>
      rintro i vs mu ⟨rfl, hE⟩ hi
      have e1 := hE.len
      have e3 : ((x.cps.toList.map (signOf b)).take i).length ≤ i := List.length_take_le _ _
      rw [sizeLine_eq]
      omega
    case turn =>
      rintro i v vs mu m0 L' g' hi h_8 ⟨rfl, hE⟩ hg'
      refine hide ?_
      intro X_ k_
      first | (refine ex3 h_8 ?_; clear h_8; rintro cp u hcp rfl) | (refine ex2 h_8 ?_; clear h_8; rintro cp u hr_; first | obtain ⟨hcp, rfl⟩ := hr_) | (refine ex1 h_8 ?_; clear h_8; rintro cp hr_; first | (refine and3 hr_ ?_; clear hr_; rintro u hcp rfl) | obtain ⟨u, hcp, rfl⟩ := hr_) | (first | (refine and4 h_8 ?_; clear h_8; rintro cp u hcp rfl) | (refine and3 h_8 ?_; clear h_8; rintro cp u ⟨hcp, rfl⟩) | obtain ⟨cp, u, hcp, rfl⟩ := h_8)
      refine k_ ?_
      clear k_ X_
      have kD : (D, Sh.dct kvs) ∈ pre ++ [(D, .dct kvs), (L + 1, .cell (some (.ref D)))] := List.mem_append_right _ (.head _)
      have kC : (L + 1, Sh.cell (some (.ref D))) ∈ pre ++ [(D, .dct kvs), (L + 1, .cell (some (.ref D)))] := List.mem_append_right _ (.tail _ (.head _))
      walk_at "ms"
      walk_at "md_get"
      walk_at "ms"
      refine w_getDct2 (kn_mu kD) ?_
      refine ⟨rfl, ?_⟩
      rw [List.take_add_one, List.getElem?_map, Array.getElem?_toList, hcp]
      refine hE.snoc ?_
      unfold signOf
      cases e : look (tabL b) ⟨#[cp]⟩ with
      | none => rw [hD.none e]; exact ⟨u, rfl⟩
      | some y => obtain ⟨v', e', hv'⟩ := hD.some e; rw [e']; exact hv'
    case fin =>
      rintro F vs mu ⟨rfl, hE⟩
      walk_at "ms"
      rw [List.take_of_length_le (by rw [List.length_map, Array.length_toList]; exact Nat.le_refl _)] at hE
      refine w_joinE (kn_mu (.head _)) hE hj fun t' => ?_
      exact ⟨t', rfl⟩
end
end Mine
end -- F7

section -- F8
open PySem PySem.W PySem.Calls PyProof.Rows PySem.Builtin
namespace Mine
section
variable {prog : Program} {w : World} {O : Heap} {A : Around} {P : Params} {mg mb : Str → Option Value} {g : Kn}

noncomputable def scopeNext (ps : List (Str × Str)) (r : Row) : List (Str × Str) := r.uris.foldl stepS ps
noncomputable def scAt (rows : List Row) (i : Nat) : List (Str × Str) := (rows.take i).foldl scopeNext []
theorem len_steps : ∀ (l : List (Str × Str)) (ps : List (Str × Str)), (l.foldl stepS ps).length ≤ ps.length + l.length
  | [], _ => Nat.le_refl _
  | p :: l, ps => by
    have h1 := len_steps l (stepS ps p)
    have h2 := len_stepS ps p
    rw [List.foldl_cons, List.length_cons]; omega
theorem scAt_succ {rows : List Row} {i : Nat} {r : Row} (e : rows[i]? = some r) : scAt rows (i + 1) = scopeNext (scAt rows i) r := by
  unfold scAt
  rw [List.take_add_one, e, List.foldl_append]
  rfl
theorem len_scAt {rows : List Row} (h : ∀ r ∈ rows, r.uris.length ≤ 10) : ∀ i, i ≤ rows.length → (scAt rows i).length ≤ 10 * i
  | 0, _ => by unfold scAt; simp
  | i + 1, hi => by
    have e := List.getElem?_eq_getElem (show i < rows.length by omega)
    rw [scAt_succ e]
    have h1 := len_scAt h i (by omega)
    have h2 := len_steps (rows[i]'(by omega)).uris (scAt rows i)
    have h3 := h _ (List.getElem_mem (show i < rows.length by omega))
    unfold scopeNext
    omega
noncomputable def scopesOf (rows : List Row) : List (List (Str × Str)) := (List.range rows.length).map fun j => scAt rows (j + 1)

theorem scopes_ok (G : Gnd (hk.heap_1 P) O mg mb) (hA : Amb A 2) {rs : Addr} {vs : List Value} {rows : List Row} (hg : g rs (.lst vs)) (hr : Each (RowV g) rows vs) (hb : ∀ r ∈ rows, r.uris.length ≤ 10) (hz : rows.length ≤ 10) :
    Calls prog w O A (.ref 406) [.ref rs] g [] (fun v mu' => ∃ b ds acc, v = .ref b ∧ mu' = (b, .lst ds) :: acc ∧ Each (DictV (inL acc)) (scopesOf rows) ds) := by
  refine Calls.fn (n := 1) [("rows", .ref rs)] G hA (by k_is) (by k_is) (fun _ _ => BindsTo.of_eq rfl) (locs rfl) ?_ (by rfl) (by rfl) (by rfl) (by decide)
  intro L s env c hA G
  have hh : c.A.handled = none := hA.handled
  refine w_seq (w_assignSwap (names := ["found", "here"]) ?_ (by rfl) (by rfl))
  walk_at "ms"
  rename_i f hd0 T
  refine w_drop [(hd0, .dct []), (f, .lst [])] (List.sublist_cons_self _ _) ?_
  refine w_turn [(f, .lst []), (hd0, .dct [])] (List.Perm.swap ..) ?_
  refine w_forSrc (src_lst hh hg fun _ => dr_tupL) (fun i st => ∃ ds hd kvs acc, st.mu = (f, .lst ds) :: acc ∧ (hd, Sh.dct kvs) ∈ acc ∧ DctIs (scAt rows i) kvs ∧ Each (DictV (inL acc)) ((List.range i).map fun j => scAt rows (j + 1)) ds ∧
    st.m "found" = some (.ref f) ∧ st.m "here" = some (.ref hd)) ?h0 ?turn ?fin
  case h0 =>
    refine ⟨[], hd0, [], [(hd0, .dct [])], rfl, .head _, trivial, trivial, ?_, ?_⟩
    · walk_at "ml0"
    · walk_at "ml0"
  case turn =>
    rintro i v ⟨m, mu⟩ g' hi hv h_6 hg'
    refine hide ?_
    intro X_ k_
    first | (refine ex9 h_6 ?_; clear h_6; rintro ds hd kvs acc hmu hmem hD hE m1 m2) | (refine ex8 h_6 ?_; clear h_6; rintro ds hd kvs acc hmu hmem hD hE hr_; first | obtain ⟨m1, m2⟩ := hr_) | (refine ex7 h_6 ?_; clear h_6; rintro ds hd kvs acc hmu hmem hD hr_; first | (refine and3 hr_ ?_; clear hr_; rintro hE m1 m2) | obtain ⟨hE, m1, m2⟩ := hr_) | (refine ex6 h_6 ?_; clear h_6; rintro ds hd kvs acc hmu hmem hr_; first | (refine and4 hr_ ?_; clear hr_; rintro hD hE m1 m2) | (refine and3 hr_ ?_; clear hr_; rintro hD hE ⟨m1, m2⟩) | obtain ⟨hD, hE, m1, m2⟩ := hr_) | (refine ex5 h_6 ?_; clear h_6; rintro ds hd kvs acc hmu hr_; first | (refine and5 hr_ ?_; clear hr_; rintro hmem hD hE m1 m2) | (refine and4 hr_ ?_; clear hr_; rintro hmem hD hE ⟨m1, m2⟩) | (refine and3 hr_ ?_; clear hr_; rintro hmem hD ⟨hE, m1, m2⟩) | obtain ⟨hmem, hD, hE, m1, m2⟩ := hr_) | (refine ex4 h_6 ?_; clear h_6; rintro ds hd kvs acc hr_; first | (refine and6 hr_ ?_; clear hr_; rintro hmu hmem hD hE m1 m2) | (refine and5 hr_ ?_; clear hr_; rintro hmu hmem hD hE ⟨m1, m2⟩) | (refine and4 hr_ ?_; clear hr_; rintro hmu hmem hD ⟨hE, m1, m2⟩) | (refine and3 hr_ ?_; clear hr_; rintro hmu hmem ⟨hD, hE, m1, m2⟩) | obtain ⟨hmu, hmem, hD, hE, m1, m2⟩ := hr_) | (refine ex3 h_6 ?_; clear h_6; rintro ds hd kvs hr_; first | (refine and7 hr_ ?_; clear hr_; rintro acc hmu hmem hD hE m1 m2) | (refine and6 hr_ ?_; clear hr_; rintro acc hmu hmem hD hE ⟨m1, m2⟩) | (refine and5 hr_ ?_; clear hr_; rintro acc hmu hmem hD ⟨hE, m1, m2⟩) | (refine and4 hr_ ?_; clear hr_; rintro acc hmu hmem ⟨hD, hE, m1, m2⟩) | (refine and3 hr_ ?_; clear hr_; rintro acc hmu ⟨hmem, hD, hE, m1, m2⟩) | obtain ⟨acc, hmu, hmem, hD, hE, m1, m2⟩ := hr_) | (refine ex2 h_6 ?_; clear h_6; rintro ds hd hr_; first | (refine and8 hr_ ?_; clear hr_; rintro kvs acc hmu hmem hD hE m1 m2) | (refine and7 hr_ ?_; clear hr_; rintro kvs acc hmu hmem hD hE ⟨m1, m2⟩) | (refine and6 hr_ ?_; clear hr_; rintro kvs acc hmu hmem hD ⟨hE, m1, m2⟩) | (refine and5 hr_ ?_; clear hr_; rintro kvs acc hmu hmem ⟨hD, hE, m1, m2⟩) | (refine and4 hr_ ?_; clear hr_; rintro kvs acc hmu ⟨hmem, hD, hE, m1, m2⟩) | (refine and3 hr_ ?_; clear hr_; rintro kvs acc ⟨hmu, hmem, hD, hE, m1, m2⟩) | obtain ⟨kvs, acc, hmu, hmem, hD, hE, m1, m2⟩ := hr_) | (refine ex1 h_6 ?_; clear h_6; rintro ds hr_; first | (refine and9 hr_ ?_; clear hr_; rintro hd kvs acc hmu hmem hD hE m1 m2) | (refine and8 hr_ ?_; clear hr_; rintro hd kvs acc hmu hmem hD hE ⟨m1, m2⟩) | (refine and7 hr_ ?_; clear hr_; rintro hd kvs acc hmu hmem hD ⟨hE, m1, m2⟩) | (refine and6 hr_ ?_; clear hr_; rintro hd kvs acc hmu hmem ⟨hD, hE, m1, m2⟩) | (refine and5 hr_ ?_; clear hr_; rintro hd kvs acc hmu ⟨hmem, hD, hE, m1, m2⟩) | (refine and4 hr_ ?_; clear hr_; rintro hd kvs acc ⟨hmu, hmem, hD, hE, m1, m2⟩) | (refine and3 hr_ ?_; clear hr_; rintro hd kvs ⟨acc, hmu, hmem, hD, hE, m1, m2⟩) | obtain ⟨hd, kvs, acc, hmu, hmem, hD, hE, m1, m2⟩ := hr_) | (first | (refine and10 h_6 ?_; clear h_6; rintro ds hd kvs acc hmu hmem hD hE m1 m2) | (refine and9 h_6 ?_; clear h_6; rintro ds hd kvs acc hmu hmem hD hE ⟨m1, m2⟩) | (refine and8 h_6 ?_; clear h_6; rintro ds hd kvs acc hmu hmem hD ⟨hE, m1, m2⟩) | (refine and7 h_6 ?_; clear h_6; rintro ds hd kvs acc hmu hmem ⟨hD, hE, m1, m2⟩) | (refine and6 h_6 ?_; clear h_6; rintro ds hd kvs acc hmu ⟨hmem, hD, hE, m1, m2⟩) | (refine and5 h_6 ?_; clear h_6; rintro ds hd kvs acc ⟨hmu, hmem, hD, hE, m1, m2⟩) | (refine and4 h_6 ?_; clear h_6; rintro ds hd kvs ⟨acc, hmu, hmem, hD, hE, m1, m2⟩) | (refine and3 h_6 ?_; clear h_6; rintro ds hd ⟨kvs, acc, hmu, hmem, hD, hE, m1, m2⟩) | obtain ⟨ds, hd, kvs, acc, hmu, hmem, hD, hE, m1, m2⟩ := h_6)
    refine k_ ?_
    clear k_ X_
    dsimp only at hmu m1 m2
    subst hmu
    refine hide ?_
    intro X_ k_
    first | (refine ex9 (hr.get' hv) ?_; rintro r hri a tn bu us ba as tx hr_; first | (refine and6 hr_ ?_; clear hr_; rintro rfl h1 h2 h3 h4 h5) | (refine and5 hr_ ?_; clear hr_; rintro rfl h1 h2 h3 ⟨h4, h5⟩) | (refine and4 hr_ ?_; clear hr_; rintro rfl h1 h2 ⟨h3, h4, h5⟩) | (refine and3 hr_ ?_; clear hr_; rintro rfl h1 ⟨h2, h3, h4, h5⟩) | obtain ⟨rfl, h1, h2, h3, h4, h5⟩ := hr_) | (refine ex8 (hr.get' hv) ?_; rintro r hri a tn bu us ba as hr_; first | (refine and7 hr_ ?_; clear hr_; rintro tx rfl h1 h2 h3 h4 h5) | (refine and6 hr_ ?_; clear hr_; rintro tx rfl h1 h2 h3 ⟨h4, h5⟩) | (refine and5 hr_ ?_; clear hr_; rintro tx rfl h1 h2 ⟨h3, h4, h5⟩) | (refine and4 hr_ ?_; clear hr_; rintro tx rfl h1 ⟨h2, h3, h4, h5⟩) | (refine and3 hr_ ?_; clear hr_; rintro tx rfl ⟨h1, h2, h3, h4, h5⟩) | obtain ⟨tx, rfl, h1, h2, h3, h4, h5⟩ := hr_) | (refine ex7 (hr.get' hv) ?_; rintro r hri a tn bu us ba hr_; first | (refine and8 hr_ ?_; clear hr_; rintro as tx rfl h1 h2 h3 h4 h5) | (refine and7 hr_ ?_; clear hr_; rintro as tx rfl h1 h2 h3 ⟨h4, h5⟩) | (refine and6 hr_ ?_; clear hr_; rintro as tx rfl h1 h2 ⟨h3, h4, h5⟩) | (refine and5 hr_ ?_; clear hr_; rintro as tx rfl h1 ⟨h2, h3, h4, h5⟩) | (refine and4 hr_ ?_; clear hr_; rintro as tx rfl ⟨h1, h2, h3, h4, h5⟩) | (refine and3 hr_ ?_; clear hr_; rintro as tx ⟨rfl, h1, h2, h3, h4, h5⟩) | obtain ⟨as, tx, rfl, h1, h2, h3, h4, h5⟩ := hr_) | (refine ex6 (hr.get' hv) ?_; rintro r hri a tn bu us hr_; first | (refine and9 hr_ ?_; clear hr_; rintro ba as tx rfl h1 h2 h3 h4 h5) | (refine and8 hr_ ?_; clear hr_; rintro ba as tx rfl h1 h2 h3 ⟨h4, h5⟩) | (refine and7 hr_ ?_; clear hr_; rintro ba as tx rfl h1 h2 ⟨h3, h4, h5⟩) | (refine and6 hr_ ?_; clear hr_; rintro ba as tx rfl h1 ⟨h2, h3, h4, h5⟩) | (refine and5 hr_ ?_; clear hr_; rintro ba as tx rfl ⟨h1, h2, h3, h4, h5⟩) | (refine and4 hr_ ?_; clear hr_; rintro ba as tx ⟨rfl, h1, h2, h3, h4, h5⟩) | (refine and3 hr_ ?_; clear hr_; rintro ba as ⟨tx, rfl, h1, h2, h3, h4, h5⟩) | obtain ⟨ba, as, tx, rfl, h1, h2, h3, h4, h5⟩ := hr_) | (refine ex5 (hr.get' hv) ?_; rintro r hri a tn bu hr_; first | (refine and10 hr_ ?_; clear hr_; rintro us ba as tx rfl h1 h2 h3 h4 h5) | (refine and9 hr_ ?_; clear hr_; rintro us ba as tx rfl h1 h2 h3 ⟨h4, h5⟩) | (refine and8 hr_ ?_; clear hr_; rintro us ba as tx rfl h1 h2 ⟨h3, h4, h5⟩) | (refine and7 hr_ ?_; clear hr_; rintro us ba as tx rfl h1 ⟨h2, h3, h4, h5⟩) | (refine and6 hr_ ?_; clear hr_; rintro us ba as tx rfl ⟨h1, h2, h3, h4, h5⟩) | (refine and5 hr_ ?_; clear hr_; rintro us ba as tx ⟨rfl, h1, h2, h3, h4, h5⟩) | (refine and4 hr_ ?_; clear hr_; rintro us ba as ⟨tx, rfl, h1, h2, h3, h4, h5⟩) | (refine and3 hr_ ?_; clear hr_; rintro us ba ⟨as, tx, rfl, h1, h2, h3, h4, h5⟩) | obtain ⟨us, ba, as, tx, rfl, h1, h2, h3, h4, h5⟩ := hr_) | (refine ex4 (hr.get' hv) ?_; rintro r hri a tn hr_; first | (refine and11 hr_ ?_; clear hr_; rintro bu us ba as tx rfl h1 h2 h3 h4 h5) | (refine and10 hr_ ?_; clear hr_; rintro bu us ba as tx rfl h1 h2 h3 ⟨h4, h5⟩) | (refine and9 hr_ ?_; clear hr_; rintro bu us ba as tx rfl h1 h2 ⟨h3, h4, h5⟩) | (refine and8 hr_ ?_; clear hr_; rintro bu us ba as tx rfl h1 ⟨h2, h3, h4, h5⟩) | (refine and7 hr_ ?_; clear hr_; rintro bu us ba as tx rfl ⟨h1, h2, h3, h4, h5⟩) | (refine and6 hr_ ?_; clear hr_; rintro bu us ba as tx ⟨rfl, h1, h2, h3, h4, h5⟩) | (refine and5 hr_ ?_; clear hr_; rintro bu us ba as ⟨tx, rfl, h1, h2, h3, h4, h5⟩) | (refine and4 hr_ ?_; clear hr_; rintro bu us ba ⟨as, tx, rfl, h1, h2, h3, h4, h5⟩) | (refine and3 hr_ ?_; clear hr_; rintro bu us ⟨ba, as, tx, rfl, h1, h2, h3, h4, h5⟩) | obtain ⟨bu, us, ba, as, tx, rfl, h1, h2, h3, h4, h5⟩ := hr_) | (refine ex3 (hr.get' hv) ?_; rintro r hri a hr_; first | (refine and12 hr_ ?_; clear hr_; rintro tn bu us ba as tx rfl h1 h2 h3 h4 h5) | (refine and11 hr_ ?_; clear hr_; rintro tn bu us ba as tx rfl h1 h2 h3 ⟨h4, h5⟩) | (refine and10 hr_ ?_; clear hr_; rintro tn bu us ba as tx rfl h1 h2 ⟨h3, h4, h5⟩) | (refine and9 hr_ ?_; clear hr_; rintro tn bu us ba as tx rfl h1 ⟨h2, h3, h4, h5⟩) | (refine and8 hr_ ?_; clear hr_; rintro tn bu us ba as tx rfl ⟨h1, h2, h3, h4, h5⟩) | (refine and7 hr_ ?_; clear hr_; rintro tn bu us ba as tx ⟨rfl, h1, h2, h3, h4, h5⟩) | (refine and6 hr_ ?_; clear hr_; rintro tn bu us ba as ⟨tx, rfl, h1, h2, h3, h4, h5⟩) | (refine and5 hr_ ?_; clear hr_; rintro tn bu us ba ⟨as, tx, rfl, h1, h2, h3, h4, h5⟩) | (refine and4 hr_ ?_; clear hr_; rintro tn bu us ⟨ba, as, tx, rfl, h1, h2, h3, h4, h5⟩) | (refine and3 hr_ ?_; clear hr_; rintro tn bu ⟨us, ba, as, tx, rfl, h1, h2, h3, h4, h5⟩) | obtain ⟨tn, bu, us, ba, as, tx, rfl, h1, h2, h3, h4, h5⟩ := hr_) | (refine ex2 (hr.get' hv) ?_; rintro r hri hr_; first | (refine and13 hr_ ?_; clear hr_; rintro a tn bu us ba as tx rfl h1 h2 h3 h4 h5) | (refine and12 hr_ ?_; clear hr_; rintro a tn bu us ba as tx rfl h1 h2 h3 ⟨h4, h5⟩) | (refine and11 hr_ ?_; clear hr_; rintro a tn bu us ba as tx rfl h1 h2 ⟨h3, h4, h5⟩) | (refine and10 hr_ ?_; clear hr_; rintro a tn bu us ba as tx rfl h1 ⟨h2, h3, h4, h5⟩) | (refine and9 hr_ ?_; clear hr_; rintro a tn bu us ba as tx rfl ⟨h1, h2, h3, h4, h5⟩) | (refine and8 hr_ ?_; clear hr_; rintro a tn bu us ba as tx ⟨rfl, h1, h2, h3, h4, h5⟩) | (refine and7 hr_ ?_; clear hr_; rintro a tn bu us ba as ⟨tx, rfl, h1, h2, h3, h4, h5⟩) | (refine and6 hr_ ?_; clear hr_; rintro a tn bu us ba ⟨as, tx, rfl, h1, h2, h3, h4, h5⟩) | (refine and5 hr_ ?_; clear hr_; rintro a tn bu us ⟨ba, as, tx, rfl, h1, h2, h3, h4, h5⟩) | (refine and4 hr_ ?_; clear hr_; rintro a tn bu ⟨us, ba, as, tx, rfl, h1, h2, h3, h4, h5⟩) | (refine and3 hr_ ?_; clear hr_; rintro a tn ⟨bu, us, ba, as, tx, rfl, h1, h2, h3, h4, h5⟩) | obtain ⟨a, tn, bu, us, ba, as, tx, rfl, h1, h2, h3, h4, h5⟩ := hr_) | (refine ex1 (hr.get' hv) ?_; rintro r hr_; first | (refine and14 hr_ ?_; clear hr_; rintro hri a tn bu us ba as tx rfl h1 h2 h3 h4 h5) | (refine and13 hr_ ?_; clear hr_; rintro hri a tn bu us ba as tx rfl h1 h2 h3 ⟨h4, h5⟩) | (refine and12 hr_ ?_; clear hr_; rintro hri a tn bu us ba as tx rfl h1 h2 ⟨h3, h4, h5⟩) | (refine and11 hr_ ?_; clear hr_; rintro hri a tn bu us ba as tx rfl h1 ⟨h2, h3, h4, h5⟩) | (refine and10 hr_ ?_; clear hr_; rintro hri a tn bu us ba as tx rfl ⟨h1, h2, h3, h4, h5⟩) | (refine and9 hr_ ?_; clear hr_; rintro hri a tn bu us ba as tx ⟨rfl, h1, h2, h3, h4, h5⟩) | (refine and8 hr_ ?_; clear hr_; rintro hri a tn bu us ba as ⟨tx, rfl, h1, h2, h3, h4, h5⟩) | (refine and7 hr_ ?_; clear hr_; rintro hri a tn bu us ba ⟨as, tx, rfl, h1, h2, h3, h4, h5⟩) | (refine and6 hr_ ?_; clear hr_; rintro hri a tn bu us ⟨ba, as, tx, rfl, h1, h2, h3, h4, h5⟩) | (refine and5 hr_ ?_; clear hr_; rintro hri a tn bu ⟨us, ba, as, tx, rfl, h1, h2, h3, h4, h5⟩) | (refine and4 hr_ ?_; clear hr_; rintro hri a tn ⟨bu, us, ba, as, tx, rfl, h1, h2, h3, h4, h5⟩) | (refine and3 hr_ ?_; clear hr_; rintro hri a ⟨tn, bu, us, ba, as, tx, rfl, h1, h2, h3, h4, h5⟩) | obtain ⟨hri, a, tn, bu, us, ba, as, tx, rfl, h1, h2, h3, h4, h5⟩ := hr_) | (first | (refine and15 (hr.get' hv) ?_; rintro r hri a tn bu us ba as tx rfl h1 h2 h3 h4 h5) | (refine and14 (hr.get' hv) ?_; rintro r hri a tn bu us ba as tx rfl h1 h2 h3 ⟨h4, h5⟩) | (refine and13 (hr.get' hv) ?_; rintro r hri a tn bu us ba as tx rfl h1 h2 ⟨h3, h4, h5⟩) | (refine and12 (hr.get' hv) ?_; rintro r hri a tn bu us ba as tx rfl h1 ⟨h2, h3, h4, h5⟩) | (refine and11 (hr.get' hv) ?_; rintro r hri a tn bu us ba as tx rfl ⟨h1, h2, h3, h4, h5⟩) | (refine and10 (hr.get' hv) ?_; rintro r hri a tn bu us ba as tx ⟨rfl, h1, h2, h3, h4, h5⟩) | (refine and9 (hr.get' hv) ?_; rintro r hri a tn bu us ba as ⟨tx, rfl, h1, h2, h3, h4, h5⟩) | (refine and8 (hr.get' hv) ?_; rintro r hri a tn bu us ba ⟨as, tx, rfl, h1, h2, h3, h4, h5⟩) | (refine and7 (hr.get' hv) ?_; rintro r hri a tn bu us ⟨ba, as, tx, rfl, h1, h2, h3, h4, h5⟩) | (refine and6 (hr.get' hv) ?_; rintro r hri a tn bu ⟨us, ba, as, tx, rfl, h1, h2, h3, h4, h5⟩) | (refine and5 (hr.get' hv) ?_; rintro r hri a tn ⟨bu, us, ba, as, tx, rfl, h1, h2, h3, h4, h5⟩) | (refine and4 (hr.get' hv) ?_; rintro r hri a ⟨tn, bu, us, ba, as, tx, rfl, h1, h2, h3, h4, h5⟩) | (refine and3 (hr.get' hv) ?_; rintro r hri ⟨a, tn, bu, us, ba, as, tx, rfl, h1, h2, h3, h4, h5⟩) | obtain ⟨r, hri, a, tn, bu, us, ba, as, tx, rfl, h1, h2, h3, h4, h5⟩ := (hr.get' hv))
    refine k_ ?_
    clear k_ X_
    have h1' := hg' _ _ h1
    have h2' := hg' _ _ h2
    have hir : i < rows.length := (List.getElem?_eq_some_iff.mp hri).1
    have hlr := hb r (List.mem_of_getElem? hri)
    have hls := len_scAt hb i (by omega)
    have hlk := hD.len
    have hm2 : (hd, Sh.dct kvs) ∈ (f, Sh.lst ds) :: acc := .tail _ hmem
    walk_at "ms"
    refine w_dctOf (by assumption) (kn_mu hm2) (by omega) fun nd => ?_
    walk_at "ms"
    refine w_forSrc (src_lst hh h2' fun _ => dr_tupL) (fun j st => ∃ kvs', st.mu = (nd, .dct kvs') :: (f, .lst ds) :: acc ∧ DctIs ((r.uris.take j).foldl stepS (scAt rows i)) kvs' ∧ st.m "found" = some (.ref f) ∧ st.m "here" = some (.ref nd)) ?h02 ?turn2 ?fin2
    case h02 =>
      refine ⟨kvs, rfl, hD, ?_, ?_⟩
      · walk_at "ml0"
      · walk_at "ml0"
    case turn2 =>
      rintro j v ⟨m, mu⟩ g'' hj hv h_6 hg''
      refine hide ?_
      intro X_ k_
      first | (refine ex4 h_6 ?_; clear h_6; rintro kvs' hmu hD' m1 m2) | (refine ex3 h_6 ?_; clear h_6; rintro kvs' hmu hD' hr_; first | obtain ⟨m1, m2⟩ := hr_) | (refine ex2 h_6 ?_; clear h_6; rintro kvs' hmu hr_; first | (refine and3 hr_ ?_; clear hr_; rintro hD' m1 m2) | obtain ⟨hD', m1, m2⟩ := hr_) | (refine ex1 h_6 ?_; clear h_6; rintro kvs' hr_; first | (refine and4 hr_ ?_; clear hr_; rintro hmu hD' m1 m2) | (refine and3 hr_ ?_; clear hr_; rintro hmu hD' ⟨m1, m2⟩) | obtain ⟨hmu, hD', m1, m2⟩ := hr_) | (first | (refine and5 h_6 ?_; clear h_6; rintro kvs' hmu hD' m1 m2) | (refine and4 h_6 ?_; clear h_6; rintro kvs' hmu hD' ⟨m1, m2⟩) | (refine and3 h_6 ?_; clear h_6; rintro kvs' hmu ⟨hD', m1, m2⟩) | obtain ⟨kvs', hmu, hD', m1, m2⟩ := h_6)
      refine k_ ?_
      clear k_ X_
      dsimp only at hmu m1 m2
      subst hmu
      refine hide ?_
      intro X_ k_
      first | (refine ex5 (h3.get' hv) ?_; rintro p hpj q tp tq hr_; first | obtain ⟨rfl, hq⟩ := hr_) | (refine ex4 (h3.get' hv) ?_; rintro p hpj q tp hr_; first | (refine and3 hr_ ?_; clear hr_; rintro tq rfl hq) | obtain ⟨tq, rfl, hq⟩ := hr_) | (refine ex3 (h3.get' hv) ?_; rintro p hpj q hr_; first | (refine and4 hr_ ?_; clear hr_; rintro tp tq rfl hq) | (refine and3 hr_ ?_; clear hr_; rintro tp tq ⟨rfl, hq⟩) | obtain ⟨tp, tq, rfl, hq⟩ := hr_) | (refine ex2 (h3.get' hv) ?_; rintro p hpj hr_; first | (refine and5 hr_ ?_; clear hr_; rintro q tp tq rfl hq) | (refine and4 hr_ ?_; clear hr_; rintro q tp tq ⟨rfl, hq⟩) | (refine and3 hr_ ?_; clear hr_; rintro q tp ⟨tq, rfl, hq⟩) | obtain ⟨q, tp, tq, rfl, hq⟩ := hr_) | (refine ex1 (h3.get' hv) ?_; rintro p hr_; first | (refine and6 hr_ ?_; clear hr_; rintro hpj q tp tq rfl hq) | (refine and5 hr_ ?_; clear hr_; rintro hpj q tp tq ⟨rfl, hq⟩) | (refine and4 hr_ ?_; clear hr_; rintro hpj q tp ⟨tq, rfl, hq⟩) | (refine and3 hr_ ?_; clear hr_; rintro hpj q ⟨tp, tq, rfl, hq⟩) | obtain ⟨hpj, q, tp, tq, rfl, hq⟩ := hr_) | (first | (refine and7 (h3.get' hv) ?_; rintro p hpj q tp tq rfl hq) | (refine and6 (h3.get' hv) ?_; rintro p hpj q tp tq ⟨rfl, hq⟩) | (refine and5 (h3.get' hv) ?_; rintro p hpj q tp ⟨tq, rfl, hq⟩) | (refine and4 (h3.get' hv) ?_; rintro p hpj q ⟨tp, tq, rfl, hq⟩) | (refine and3 (h3.get' hv) ?_; rintro p hpj ⟨q, tp, tq, rfl, hq⟩) | obtain ⟨p, hpj, q, tp, tq, rfl, hq⟩ := (h3.get' hv))
      refine k_ ?_
      clear k_ X_
      have hq' := hg'' _ _ (hg' _ _ hq)
      have hlj : ((r.uris.take j).foldl stepS (scAt rows i)).length ≤ 200 := by
        have e1 := len_steps (r.uris.take j) (scAt rows i)
        have e2 : (r.uris.take j).length ≤ r.uris.length := List.length_take_le' _ _
        omega
      have hlk' := hD'.len
      have est : (r.uris.take (j + 1)).foldl stepS (scAt rows i) = stepS ((r.uris.take j).foldl stepS (scAt rows i)) p := by
        rw [List.take_add_one, hpj, List.foldl_append]; rfl
      walk_at "ms"
      refine Br.of (fun hu => ?_) (fun hu => ?_)
      · walk_at "ms"
        refine w_setDct Up.head (by omega) ?_
        walk_at "ms"
        refine ⟨_, rfl, ?_, ?_, ?_⟩
        · rw [est]
          unfold stepS
          rw [if_neg (by simpa using hu)]
          exact hD'.put ⟨_, rfl⟩
        · walk_at "ml0"
        · walk_at "ml0"
      · walk_at "ms"
        walk_at "md_pop"
        walk_at "ms"
        have hu' : p.2 = "" := by simpa using hu
        have key : (r.uris.take (j + 1)).foldl stepS (scAt rows i) = del2 ((r.uris.take j).foldl stepS (scAt rows i)) p.1 := by
          rw [est]
          unfold stepS
          rw [if_pos hu']
        cases e : look ((r.uris.take j).foldl stepS (scAt rows i)) p.1 with
        | none =>
          refine w_popDctD (kn_mu (.head _)) (hD'.none e) ?_
          walk_at "ms"
          refine ⟨_, rfl, ?_, ?_, ?_⟩
          · rw [key, del2_none e]; exact hD'
          · walk_at "ml0"
          · walk_at "ml0"
        | some y =>
          obtain ⟨v', e', _⟩ := hD'.some e
          refine w_popDct Up.head (.inr ⟨_, rfl⟩) e' (by omega) ?_
          walk_at "ms"
          refine ⟨_, rfl, ?_, ?_, ?_⟩
          · rw [key]; exact hD'.del _
          · walk_at "ml0"
          · walk_at "ml0"
    case fin2 =>
      rintro ⟨m, mu⟩ h_1
      refine hide ?_
      intro X_ k_
      first | (refine ex4 h_1 ?_; clear h_1; rintro kvs' hmu hD' m1 m2) | (refine ex3 h_1 ?_; clear h_1; rintro kvs' hmu hD' hr_; first | obtain ⟨m1, m2⟩ := hr_) | (refine ex2 h_1 ?_; clear h_1; rintro kvs' hmu hr_; first | (refine and3 hr_ ?_; clear hr_; rintro hD' m1 m2) | obtain ⟨hD', m1, m2⟩ := hr_) | (refine ex1 h_1 ?_; clear h_1; rintro kvs' hr_; first | (refine and4 hr_ ?_; clear hr_; rintro hmu hD' m1 m2) | (refine and3 hr_ ?_; clear hr_; rintro hmu hD' ⟨m1, m2⟩) | obtain ⟨hmu, hD', m1, m2⟩ := hr_) | (first | (refine and5 h_1 ?_; clear h_1; rintro kvs' hmu hD' m1 m2) | (refine and4 h_1 ?_; clear h_1; rintro kvs' hmu hD' ⟨m1, m2⟩) | (refine and3 h_1 ?_; clear h_1; rintro kvs' hmu ⟨hD', m1, m2⟩) | obtain ⟨kvs', hmu, hD', m1, m2⟩ := h_1)
      refine k_ ?_
      clear k_ X_
      dsimp only at hmu m1 m2
      subst hmu
      rw [← h3.len, List.take_length] at hD'
      walk_at "ms"
      walk_at "ml_append"
      walk_at "ms"
      have hld := hE.len
      rw [List.length_map, List.length_range] at hld
      refine w_append (Up.tail Up.head) (by rw [sizeLine_eq]; omega) ?_
      refine Seq.next ?_
      refine w_turn ((f, .lst (ds ++ [.ref nd])) :: (nd, .dct kvs') :: acc) (List.Perm.swap ..) ?_
      walk_at "ms"
      refine ⟨_, nd, kvs', _, rfl, .head _, ?_, ?_, ?_, ?_⟩
      · rw [scAt_succ hri]; exact hD'
      · rw [List.range_succ, List.map_append]
        refine Each.snoc (hE.mono (DictV.mono fun _ _ h => .tail _ h)) ⟨nd, kvs', rfl, .head _, ?_⟩
        show DctIs (scAt rows (i + 1)) kvs'
        rw [scAt_succ hri]; exact hD'
      · walk_at "ml0"
      · walk_at "ml0"
  case fin =>
    rintro ⟨m, mu⟩ h_1
    refine hide ?_
    intro X_ k_
    first | (refine ex9 h_1 ?_; clear h_1; rintro ds hd kvs acc hmu hmem hD hE m1 m2) | (refine ex8 h_1 ?_; clear h_1; rintro ds hd kvs acc hmu hmem hD hE hr_; first | obtain ⟨m1, m2⟩ := hr_) | (refine ex7 h_1 ?_; clear h_1; rintro ds hd kvs acc hmu hmem hD hr_; first | (refine and3 hr_ ?_; clear hr_; rintro hE m1 m2) | obtain ⟨hE, m1, m2⟩ := hr_) | (refine ex6 h_1 ?_; clear h_1; rintro ds hd kvs acc hmu hmem hr_; first | (refine and4 hr_ ?_; clear hr_; rintro hD hE m1 m2) | (refine and3 hr_ ?_; clear hr_; rintro hD hE ⟨m1, m2⟩) | obtain ⟨hD, hE, m1, m2⟩ := hr_) | (refine ex5 h_1 ?_; clear h_1; rintro ds hd kvs acc hmu hr_; first | (refine and5 hr_ ?_; clear hr_; rintro hmem hD hE m1 m2) | (refine and4 hr_ ?_; clear hr_; rintro hmem hD hE ⟨m1, m2⟩) | (refine and3 hr_ ?_; clear hr_; rintro hmem hD ⟨hE, m1, m2⟩) | obtain ⟨hmem, hD, hE, m1, m2⟩ := hr_) | (refine ex4 h_1 ?_; clear h_1; rintro ds hd kvs acc hr_; first | (refine and6 hr_ ?_; clear hr_; rintro hmu hmem hD hE m1 m2) | (refine and5 hr_ ?_; clear hr_; rintro hmu hmem hD hE ⟨m1, m2⟩) | (refine and4 hr_ ?_; clear hr_; rintro hmu hmem hD ⟨hE, m1, m2⟩) | (refine and3 hr_ ?_; clear hr_; rintro hmu hmem ⟨hD, hE, m1, m2⟩) | obtain ⟨hmu, hmem, hD, hE, m1, m2⟩ := hr_) | (refine ex3 h_1 ?_; clear h_1; rintro ds hd kvs hr_; first | (refine and7 hr_ ?_; clear hr_; rintro acc hmu hmem hD hE m1 m2) | (refine and6 hr_ ?_; clear hr_; rintro acc hmu hmem hD hE ⟨m1, m2⟩) | (refine and5 hr_ ?_; clear hr_; rintro acc hmu hmem hD ⟨hE, m1, m2⟩) | (refine and4 hr_ ?_; clear hr_; rintro acc hmu hmem ⟨hD, hE, m1, m2⟩) | (refine and3 hr_ ?_; clear hr_; rintro acc hmu ⟨hmem, hD, hE, m1, m2⟩) | obtain ⟨acc, hmu, hmem, hD, hE, m1, m2⟩ := hr_) | (refine ex2 h_1 ?_; clear h_1; rintro ds hd hr_; first | (refine and8 hr_ ?_; clear hr_; rintro kvs acc hmu hmem hD hE m1 m2) | (refine and7 hr_ ?_; clear hr_; rintro kvs acc hmu hmem hD hE ⟨m1, m2⟩) | (refine and6 hr_ ?_; clear hr_; rintro kvs acc hmu hmem hD ⟨hE, m1, m2⟩) | (refine and5 hr_ ?_; clear hr_; rintro kvs acc hmu hmem ⟨hD, hE, m1, m2⟩) | (refine and4 hr_ ?_; clear hr_; rintro kvs acc hmu ⟨hmem, hD, hE, m1, m2⟩) | (refine and3 hr_ ?_; clear hr_; rintro kvs acc ⟨hmu, hmem, hD, hE, m1, m2⟩) | obtain ⟨kvs, acc, hmu, hmem, hD, hE, m1, m2⟩ := hr_) | (refine ex1 h_1 ?_; clear h_1; rintro ds hr_; first | (refine and9 hr_ ?_; clear hr_; rintro hd kvs acc hmu hmem hD hE m1 m2) | (refine and8 hr_ ?_; clear hr_; rintro hd kvs acc hmu hmem hD hE ⟨m1, m2⟩) | (refine and7 hr_ ?_; clear hr_; rintro hd kvs acc hmu hmem hD ⟨hE, m1, m2⟩) | (refine and6 hr_ ?_; clear hr_; rintro hd kvs acc hmu hmem ⟨hD, hE, m1, m2⟩) | (refine and5 hr_ ?_; clear hr_; rintro hd kvs acc hmu ⟨hmem, hD, hE, m1, m2⟩) | (refine and4 hr_ ?_; clear hr_; rintro hd kvs acc ⟨hmu, hmem, hD, hE, m1, m2⟩) | (refine and3 hr_ ?_; clear hr_; rintro hd kvs ⟨acc, hmu, hmem, hD, hE, m1, m2⟩) | obtain ⟨hd, kvs, acc, hmu, hmem, hD, hE, m1, m2⟩ := hr_) | (first | (refine and10 h_1 ?_; clear h_1; rintro ds hd kvs acc hmu hmem hD hE m1 m2) | (refine and9 h_1 ?_; clear h_1; rintro ds hd kvs acc hmu hmem hD hE ⟨m1, m2⟩) | (refine and8 h_1 ?_; clear h_1; rintro ds hd kvs acc hmu hmem hD ⟨hE, m1, m2⟩) | (refine and7 h_1 ?_; clear h_1; rintro ds hd kvs acc hmu hmem ⟨hD, hE, m1, m2⟩) | (refine and6 h_1 ?_; clear h_1; rintro ds hd kvs acc hmu ⟨hmem, hD, hE, m1, m2⟩) | (refine and5 h_1 ?_; clear h_1; rintro ds hd kvs acc ⟨hmu, hmem, hD, hE, m1, m2⟩) | (refine and4 h_1 ?_; clear h_1; rintro ds hd kvs ⟨acc, hmu, hmem, hD, hE, m1, m2⟩) | (refine and3 h_1 ?_; clear h_1; rintro ds hd ⟨kvs, acc, hmu, hmem, hD, hE, m1, m2⟩) | obtain ⟨ds, hd, kvs, acc, hmu, hmem, hD, hE, m1, m2⟩ := h_1)
    refine k_ ?_
    clear k_ X_
    dsimp only at hmu m1 m2
    subst hmu
    walk_at "ms"
    refine ⟨f, ds, acc, rfl, rfl, ?_⟩
    rw [← hr.len] at hE
    exact hE
end
end Mine
end -- F8

section -- F9
open PySem PySem.W PySem.Calls PyProof.Rows PySem.Builtin
namespace Mine
section
variable {prog : Program} {w : World} {O : Heap} {A : Around} {P : Params} {mg mb : Str → Option Value} {g : Kn}

theorem rowInit_ok (G : Gnd (hk.heap_1 P) O mg mb) (hA : Amb A 1) {x d : Addr} {kv nv uv lv vv pv : Value} :
    Calls prog w O A (.ref 158) [.ref x, kv, nv, uv, lv, vv, pv] g [(x, .inst 161 d), (d, .att [])] (fun v mu' => v = .none ∧ ∃ e a n, mu' = rowLed ⟨x, d, e, a, n, kv, nv, uv, lv, vv, pv, [], [], []⟩) := by
  refine Calls.fn (n := 0) [("parent", pv), ("value", vv), ("local", lv), ("uri", uv), ("name", nv), ("kind", kv), ("self", .ref x)] G hA (by k_is) (by k_is) (fun _ _ => BindsTo.of_eq rfl) (locs rfl) ?_ (by rfl) (by rfl) (by rfl) (by decide)
  intro L s env c hA G
  walk_at "ms"
  walk_at "mset"
  walk_at "ms"
  walk_at "mset"
  walk_at "ms"
  walk_at "mset"
  walk_at "ms"
  walk_at "mset"
  walk_at "ms"
  walk_at "mset"
  walk_at "ms"
  walk_at "mset"
  walk_at "ms"
  walk_at "mset"
  walk_at "ms"
  walk_at "mset"
  walk_at "ms"
  walk_at "mset"
  walk_at "ms"
  exact ⟨rfl, _, _, _, rfl⟩

theorem treeInit_ok (G : Gnd (hk.heap_1 P) O mg mb) (hA : Amb A 1) {x d : Addr} :
    Calls prog w O A (.ref 179) [.ref x] g [(x, .inst 350 d), (d, .att [])] (fun v mu' => v = .none ∧ ∃ r, mu' = [(r, .lst []), (x, .inst 350 d), (d, .att [("rows", .ref r)])]) := by
  refine Calls.fn (n := 0) [("self", .ref x)] G hA (by k_is) (by k_is) (fun _ _ => BindsTo.of_eq rfl) (locs rfl) ?_ (by rfl) (by rfl) (by rfl) (by decide)
  intro L s env c hA G
  walk_at "ms"
  walk_at "mset"
  walk_at "ms"
  exact ⟨rfl, _, rfl⟩

noncomputable def treeIn (T : TA) (t : List NR) (mu : Led) : Prop := mu = treeLed T ∧ TreeIs T t

theorem newRow_ok (G : Gnd (hk.heap_1 P) O mg mb) (hA : Amb A 4) {T : TA} {t : List NR} (hT : TreeIs T t) (hz : t.length ≤ 1000) {kv nv uv lv vv pv : Value} {k n u l v : Str} {p : Option Nat} (hk : SV k kv) (hn : SV n nv) (hu : SV u uv) (hl : SV l lv) (hv : SV v vv) (hp : PV p pv) :
    Calls prog w O A (.ref 186) [.ref T.x, kv, nv, uv, lv, vv, pv] g (treeLed T) (fun w mu' => NV' t.length w ∧ ∃ V, mu' = treeLed { T with vs := T.vs ++ [V] } ∧ TreeIs { T with vs := T.vs ++ [V] } (t ++ [⟨k, n, u, l, v, p, [], [], []⟩])) := by
  refine Calls.fn (n := 3) [("parent", pv), ("value", vv), ("local", lv), ("uri", uv), ("name", nv), ("kind", kv), ("self", .ref T.x)] G hA (by k_is) (by k_is) (fun _ _ => BindsTo.of_eq rfl) (locs rfl) ?_ (by rfl) (by rfl) (by rfl) (by decide)
  intro L s env c hA G
  have hlen := hT.rows.len
  have t1 : (T.x, Sh.inst 350 T.d) ∈ treeLed T := .head _
  have t2 : (T.d, Sh.att [("rows", .ref T.r)]) ∈ treeLed T := .tail _ (.head _)
  have t3 : (T.r, Sh.lst (T.vs.map fun v => .ref v.y)) ∈ treeLed T := .tail _ (.tail _ (.head _))
  walk_at "ms"
  walk_at "mget"
  refine m_list_append (kn_mu t3) ?_
  walk_at "ms"
  refine w_make (C := 161) (fI := 158) G (by k_is) (by k_is) (by k_is) (fun x d mu' => ∃ e a n, mu' = rowLed ⟨x, d, e, a, n, kv, nv, uv, lv, vv, pv, [], [], []⟩) (fun x d g' h1 h2 => rowInit_ok G (Amb.make (n := 2) hA).le) ?_
  rintro x d _ h_3
  refine hide ?_
  intro X_ k_
  first | (refine ex3 h_3 ?_; clear h_3; rintro e a n' rfl) | (refine ex2 h_3 ?_; clear h_3; rintro e a hr_; first | obtain ⟨n', rfl⟩ := hr_) | (refine ex1 h_3 ?_; clear h_3; rintro e hr_; first | (refine and3 hr_ ?_; clear hr_; rintro a n' rfl) | obtain ⟨a, n', rfl⟩ := hr_) | (first | (refine and4 h_3 ?_; clear h_3; rintro e a n' rfl) | (refine and3 h_3 ?_; clear h_3; rintro e a ⟨n', rfl⟩) | obtain ⟨e, a, n', rfl⟩ := h_3)
  refine k_ ?_
  clear k_ X_
  obtain ⟨V, hV⟩ : ∃ V : NV, V = ⟨x, d, e, a, n', kv, nv, uv, lv, vv, pv, [], [], []⟩ := ⟨_, rfl⟩
  have hy : V.y = x := by rw [hV]
  rw [← hV]
  walk_at "ms"
  refine w_append (vs := T.vs.map fun v => .ref v.y) (x := .ref x) (Up.appR (Up.tail (Up.tail Up.head)) (rowLed V)) (by rw [List.length_map, sizeLine_eq]; omega) ?_
  refine Seq.next ?_
  have hR : RowIs ⟨k, n, u, l, v, p, [], [], []⟩ V := by rw [hV]; exact ⟨hk, hn, hu, hl, hv, hp, trivial, trivial, trivial, by simp⟩
  have hT' : TreeIs { T with vs := T.vs ++ [V] } (t ++ [⟨k, n, u, l, v, p, [], [], []⟩]) := ⟨hT.rows.snoc hR, by have := hT.small; simp; omega⟩
  refine w_turn (treeLed { T with vs := T.vs ++ [V] }) ?_ ?_
  · have e : treeLed { T with vs := T.vs ++ [V] } = ((T.x, Sh.inst 350 T.d) :: (T.d, .att [("rows", .ref T.r)]) :: (T.r, .lst ((T.vs.map fun v => .ref v.y) ++ [.ref x])) :: T.vs.flatMap rowLed) ++ rowLed V := by
      unfold treeLed
      simp [List.flatMap_append, List.flatMap_cons, hy]
    rw [e]
    exact List.perm_append_comm
  have t1' : (T.x, Sh.inst 350 T.d) ∈ treeLed { T with vs := T.vs ++ [V] } := .head _
  have t2' : (T.d, Sh.att [("rows", .ref T.r)]) ∈ treeLed { T with vs := T.vs ++ [V] } := .tail _ (.head _)
  have t3' : (T.r, Sh.lst ((T.vs ++ [V]).map fun v => .ref v.y)) ∈ treeLed { T with vs := T.vs ++ [V] } := .tail _ (.tail _ (.head _))
  walk_at "ms"
  walk_at "mget"
  walk_at "ms"
  refine w_lenLst (kn_mu t3') (by rw [List.length_map, List.length_append, sizeLine_eq]; simp; omega) fun _ => ?_
  walk_at "ms"
  rename_i tk
  refine ⟨⟨tk, ?_⟩, V, rfl, hT'⟩
  show Value.int _ _ = _
  have e : ((((T.vs ++ [V]).map fun v => Value.ref v.y).length : Nat) : Int) - 1 = (t.length : Int) := by
    rw [List.length_map, List.length_append, hlen]
    simp
  rw [e]

theorem elementRow_ok (G : Gnd (hk.heap_1 P) O mg mb) (hA : Amb A 2) {T : TA} {t : List NR} (hT : TreeIs T t) (hg : inG g (treeLed T)) {i : Nat} {tk : Tok} {V : NV} (hv : T.vs[i]? = some V) (hk : SV "element" V.kv) :
    Calls prog w O A (.ref 242) [.ref T.x, .int i tk] g [] (fun u _ => u = .ref V.y) := by
  refine Calls.fn (n := 1) [("element", .int i tk), ("self", .ref T.x)] G hA (by k_is) (by k_is) (fun _ _ => BindsTo.of_eq rfl) (locs rfl) ?_ (by rfl) (by rfl) (by rfl) (by decide)
  intro L s env c hA G
  have k1 := tg1 hg
  have k2 := tg2 hg
  have k4 := rg1 hg hv
  have k5 := rg2 hg hv
  have kh := hk.handed
  walk_at "ms"
  walk_at "mmeth"
  walk_at "ms"
  refine w_callPure _ (fun g' h1 _ => row_ok G hA hT (hg.mono h1) hv) ?_
  rintro _ rfl
  walk_at "ms"
  walk_at "mget"
  obtain ⟨tk', e⟩ := hk
  rw [e]
  walk_at "ms"
  refine Br.ff (by decide +kernel) ?_
  walk_at "ms"
  rfl

theorem newRoot_ok (G : Gnd (hk.heap_1 P) O mg mb) (hA : Amb A 5) {T : TA} {t : List NR} (hT : TreeIs T t) (hz : t.length ≤ 1000) :
    Calls prog w O A (.ref 200) [.ref T.x] g (treeLed T) (fun w mu' => NV' t.length w ∧ ∃ V, mu' = treeLed { T with vs := T.vs ++ [V] } ∧ TreeIs { T with vs := T.vs ++ [V] } (t ++ [⟨"root", "", "", "", "", none, [], [], []⟩])) := by
  refine Calls.fn (n := 4) [("self", .ref T.x)] G hA (by k_is) (by k_is) (fun _ _ => BindsTo.of_eq rfl) (locs rfl) ?_ (by rfl) (by rfl) (by rfl) (by decide)
  intro L s env c hA G
  have t1 : (T.x, Sh.inst 350 T.d) ∈ treeLed T := .head _
  have t2 : (T.d, Sh.att [("rows", .ref T.r)]) ∈ treeLed T := .tail _ (.head _)
  walk_at "ms"
  walk_at "mmeth"
  walk_at "ms"
  refine w_pad ?_
  refine w_call _ (fun g' h1 h2 => newRow_ok G hA.le hT hz (p := none) ⟨_, rfl⟩ ⟨_, rfl⟩ ⟨_, rfl⟩ ⟨_, rfl⟩ ⟨_, rfl⟩ rfl) ?_
  rintro v mu' h
  rw [List.append_nil]
  exact h
end
end Mine
end -- F9

section -- F10
open PySem PySem.W PySem.Calls PyProof.Rows PySem.Builtin
namespace Mine
section
variable {prog : Program} {w : World} {O : Heap} {A : Around} {P : Params} {mg mb : Str → Option Value} {g : Kn}

/-- a tree and what it has become -/
noncomputable def Became (T : TA) (t' : List NR) (mu' : Led) : Prop := ∃ T' : TA, T'.x = T.x ∧ mu' = treeLed T' ∧ TreeIs T' t'
theorem tree_t1 {T : TA} : (T.x, Sh.inst 350 T.d) ∈ treeLed T := .head _
theorem tree_t2 {T : TA} : (T.d, Sh.att [("rows", .ref T.r)]) ∈ treeLed T := .tail _ (.head _)
theorem tree_t3 {T : TA} : (T.r, Sh.lst (T.vs.map fun v => .ref v.y)) ∈ treeLed T := .tail _ (.tail _ (.head _))
theorem tree_r {T : TA} {V : NV} {i : Nat} (hv : T.vs[i]? = some V) : (V.y, Sh.inst 161 V.e) ∈ treeLed T ∧ (V.e, Sh.att (attsOf V)) ∈ treeLed T ∧ (V.c, Sh.lst V.cs) ∈ treeLed T ∧ (V.a, Sh.lst V.as) ∈ treeLed T ∧ (V.n, Sh.lst V.ns) ∈ treeLed T :=
  ⟨row_in hv _ (.tail _ (.tail _ (.tail _ (.head _)))), row_in hv _ (.tail _ (.tail _ (.tail _ (.tail _ (.head _))))), row_in hv _ (.tail _ (.tail _ (.head _))), row_in hv _ (.tail _ (.head _)), row_in hv _ (.head _)⟩

theorem rows_at {vs : List NV} {i : Nat} {V : NV} (h : vs[i]? = some V) : (vs.map fun v => Value.ref v.y)[((i : Int)).toNat]? = some (.ref V.y) := by rw [Int.toNat_natCast, List.getElem?_map, h]; rfl
noncomputable def nrOf (k n u l v : Str) (p : Option Nat) : NR := ⟨k, n, u, l, v, p, [], [], []⟩
theorem addChild_ok (G : Gnd (hk.heap_1 P) O mg mb) (hA : Amb A 5) {T : TA} {t : List NR} (hT : TreeIs T t) (hz : t.length ≤ 1000) {pp : Nat} {tp : Tok} {nr : NR} (hnr : t[pp]? = some nr) (hpk : nr.kind = "root" ∨ nr.kind = "element") (hzc : nr.ch.length ≤ 1000)
    {kv nv uv lv vv : Value} {k n u l v : Str} (hk : SV k kv) (hn : SV n nv) (hu : SV u uv) (hl : SV l lv) (hv : SV v vv) :
    Calls prog w O A (.ref 207) [.ref T.x, .int pp tp, kv, nv, uv, lv, vv] g (treeLed T) (fun w mu' => NV' t.length w ∧ Became T ((t ++ [nrOf k n u l v (some pp)]).set pp { nr with ch := nr.ch ++ [t.length] }) mu') := by
  refine Calls.fn (n := 4) [("value", vv), ("local", lv), ("uri", uv), ("name", nv), ("kind", kv), ("parent", .int pp tp), ("self", .ref T.x)] G hA (by k_is) (by k_is) (fun _ _ => BindsTo.of_eq rfl) (locs rfl) ?_ (by rfl) (by rfl) (by rfl) (by decide)
  intro L s env c hA G
  obtain ⟨V, hV, hR⟩ := hT.rows.get hnr
  have hlen := hT.rows.len
  have hpl : pp < t.length := (List.getElem?_eq_some_iff.mp hnr).1
  have t1 := tree_t1 (T := T)
  have t2 := tree_t2 (T := T)
  have t3 := tree_t3 (T := T)
  refine hide ?_
  intro X_ k_
  first | (refine ex3 (tree_r hV) ?_; rintro r1 r2 r3 hr_; first | obtain ⟨-, -⟩ := hr_) | (refine ex2 (tree_r hV) ?_; rintro r1 r2 hr_; first | (refine and3 hr_ ?_; clear hr_; rintro r3 - -) | obtain ⟨r3, -, -⟩ := hr_) | (refine ex1 (tree_r hV) ?_; rintro r1 hr_; first | (refine and4 hr_ ?_; clear hr_; rintro r2 r3 - -) | (refine and3 hr_ ?_; clear hr_; rintro r2 r3 ⟨-, -⟩) | obtain ⟨r2, r3, -, -⟩ := hr_) | (first | (refine and5 (tree_r hV) ?_; rintro r1 r2 r3 - -) | (refine and4 (tree_r hV) ?_; rintro r1 r2 r3 ⟨-, -⟩) | (refine and3 (tree_r hV) ?_; rintro r1 r2 ⟨r3, -, -⟩) | obtain ⟨r1, r2, r3, -, -⟩ := (tree_r hV))
  refine k_ ?_
  clear k_ X_
  have kh := hR.kind.handed
  walk_at "ms"
  refine Br.tt (by rfl) ?_
  walk_at "ms"
  walk_at "mmeth"
  walk_at "ms"
  refine w_callPure _ (fun g' h1 h2 => row_ok G hA.le hT (fun p hp => h2 p hp) hV) ?_
  rintro _ rfl
  walk_at "ms"
  walk_at "mget"
  obtain ⟨tk', e⟩ := hR.kind
  rw [e]
  walk_at "ms"
  refine w_notInParO (ys := [("root", 384), ("element", 385)]) (G.X _ _ (by k_is)) ?_
  walk_at "ms"
  refine Br.ff ?_ ?_
  · rcases hpk with e | e <;> rw [e] <;> decide +kernel
  walk_at "ms"
  walk_at "mmeth"
  walk_at "ms"
  refine w_pad ?_
  refine w_call _ (fun g' h1 h2 => newRow_ok G hA.le hT hz hk hn hu hl hv (p := some pp) ⟨tp, rfl⟩) ?_
  rintro _ _ h_2
  refine hide ?_
  intro X_ k_
  first | (first | (refine and4 h_2 ?_; clear h_2; rintro ⟨tn, rfl⟩ Vn rfl hT') | (refine and3 h_2 ?_; clear h_2; rintro ⟨tn, rfl⟩ Vn ⟨rfl, hT'⟩) | obtain ⟨⟨tn, rfl⟩, Vn, rfl, hT'⟩ := h_2)
  refine k_ ?_
  clear k_ X_
  rw [List.append_nil]
  have hV' : (T.vs ++ [Vn])[pp]? = some V := by rw [List.getElem?_append_left (by omega)]; exact hV
  have t1' := tree_t1 (T := { T with vs := T.vs ++ [Vn] })
  have t2' := tree_t2 (T := { T with vs := T.vs ++ [Vn] })
  have t3' := tree_t3 (T := { T with vs := T.vs ++ [Vn] })
  refine hide ?_
  intro X_ k_
  first | (refine ex3 (tree_r (T := { T with vs := T.vs ++ [Vn] }) hV') ?_; rintro r1' r2' r3' hr_; first | obtain ⟨-, -⟩ := hr_) | (refine ex2 (tree_r (T := { T with vs := T.vs ++ [Vn] }) hV') ?_; rintro r1' r2' hr_; first | (refine and3 hr_ ?_; clear hr_; rintro r3' - -) | obtain ⟨r3', -, -⟩ := hr_) | (refine ex1 (tree_r (T := { T with vs := T.vs ++ [Vn] }) hV') ?_; rintro r1' hr_; first | (refine and4 hr_ ?_; clear hr_; rintro r2' r3' - -) | (refine and3 hr_ ?_; clear hr_; rintro r2' r3' ⟨-, -⟩) | obtain ⟨r2', r3', -, -⟩ := hr_) | (first | (refine and5 (tree_r (T := { T with vs := T.vs ++ [Vn] }) hV') ?_; rintro r1' r2' r3' - -) | (refine and4 (tree_r (T := { T with vs := T.vs ++ [Vn] }) hV') ?_; rintro r1' r2' r3' ⟨-, -⟩) | (refine and3 (tree_r (T := { T with vs := T.vs ++ [Vn] }) hV') ?_; rintro r1' r2' ⟨r3', -, -⟩) | obtain ⟨r1', r2', r3', -, -⟩ := (tree_r (T := { T with vs := T.vs ++ [Vn] }) hV'))
  refine k_ ?_
  clear k_ X_
  walk_at "ms"
  refine Br.tt (by rfl) ?_
  walk_at "ms"
  walk_at "mget"
  walk_at "ms"
  refine w_itemLst (kn_mu t3') (Int.natCast_nonneg _) (rows_at hV') (by rw [List.length_map, List.length_append, sizeLine_eq]; simp; omega) ?_ sub_name
  walk_at "mget"
  refine m_list_append (kn_mu r3') ?_
  walk_at "ms"
  have hcl := hR.ch.len
  refine w_append (vs := V.cs) (x := .int t.length tn) (up_tree (T := { T with vs := T.vs ++ [Vn] }) (V := V) (V' := { V with cs := V.cs ++ [.int t.length tn] }) (Up.tail (Up.tail Up.head)) rfl hV') (by rw [sizeLine_eq]; omega) ?_
  walk_at "ms"
  refine ⟨⟨tn, rfl⟩, { T with vs := (T.vs ++ [Vn]).set pp { V with cs := V.cs ++ [.int t.length tn] } }, rfl, rfl, ?_, ?_⟩
  · exact Each.set ⟨hR.kind, hR.name, hR.uri, hR.loc, hR.value, hR.parent, hR.ch.snoc ⟨tn, rfl⟩, hR.ats, hR.nss, by have := hR.small; simp; omega⟩ pp hT'.rows
  · rw [List.length_set, List.length_append]; simp; omega

theorem addElement_ok (G : Gnd (hk.heap_1 P) O mg mb) (hA : Amb A 6) {T : TA} {t : List NR} (hT : TreeIs T t) (hz : t.length ≤ 1000) {pp : Nat} {tp : Tok} {nr : NR} (hnr : t[pp]? = some nr) (hpk : nr.kind = "root" ∨ nr.kind = "element") (hzc : nr.ch.length ≤ 1000)
    {nv uv lv : Value} {n u l : Str} (hn : SV n nv) (hu : SV u uv) (hl : SV l lv) :
    Calls prog w O A (.ref 214) [.ref T.x, .int pp tp, nv, uv, lv] g (treeLed T) (fun w mu' => NV' t.length w ∧ Became T ((t ++ [nrOf "element" n u l "" (some pp)]).set pp { nr with ch := nr.ch ++ [t.length] }) mu') := by
  refine Calls.fn (n := 5) [("local", lv), ("uri", uv), ("name", nv), ("parent", .int pp tp), ("self", .ref T.x)] G hA (by k_is) (by k_is) (fun _ _ => BindsTo.of_eq rfl) (locs rfl) ?_ (by rfl) (by rfl) (by rfl) (by decide)
  intro L s env c hA G
  have t1 := tree_t1 (T := T)
  have t2 := tree_t2 (T := T)
  walk_at "ms"
  walk_at "mmeth"
  walk_at "ms"
  refine w_pad ?_
  refine w_call _ (fun g' h1 h2 => addChild_ok G hA.le hT hz hnr hpk hzc ⟨_, rfl⟩ hn hu hl ⟨_, rfl⟩) ?_
  rintro v mu' h
  rw [List.append_nil]
  exact h
theorem addText_ok (G : Gnd (hk.heap_1 P) O mg mb) (hA : Amb A 6) {T : TA} {t : List NR} (hT : TreeIs T t) (hz : t.length ≤ 1000) {pp : Nat} {tp : Tok} {nr : NR} (hnr : t[pp]? = some nr) (hpk : nr.kind = "root" ∨ nr.kind = "element") (hzc : nr.ch.length ≤ 1000)
    {vv : Value} {v : Str} (hv : SV v vv) :
    Calls prog w O A (.ref 221) [.ref T.x, .int pp tp, vv] g (treeLed T) (fun w mu' => NV' t.length w ∧ Became T ((t ++ [nrOf "text" "" "" "" v (some pp)]).set pp { nr with ch := nr.ch ++ [t.length] }) mu') := by
  refine Calls.fn (n := 5) [("value", vv), ("parent", .int pp tp), ("self", .ref T.x)] G hA (by k_is) (by k_is) (fun _ _ => BindsTo.of_eq rfl) (locs rfl) ?_ (by rfl) (by rfl) (by rfl) (by decide)
  intro L s env c hA G
  have t1 := tree_t1 (T := T)
  have t2 := tree_t2 (T := T)
  walk_at "ms"
  walk_at "mmeth"
  walk_at "ms"
  refine w_pad ?_
  refine w_call _ (fun g' h1 h2 => addChild_ok G hA.le hT hz hnr hpk hzc ⟨_, rfl⟩ ⟨_, rfl⟩ ⟨_, rfl⟩ ⟨_, rfl⟩ hv) ?_
  rintro v mu' h
  rw [List.append_nil]
  exact h
end
end Mine
end -- F10

section -- F11
open PySem PySem.W PySem.Calls PyProof.Rows PySem.Builtin
namespace Mine
section
variable {prog : Program} {w : World} {O : Heap} {A : Around} {P : Params} {mg mb : Str → Option Value} {g : Kn}

theorem setAttribute_ok (G : Gnd (hk.heap_1 P) O mg mb) (hA : Amb A 5) {T : TA} {t : List NR} (hT : TreeIs T t) (hz : t.length ≤ 1000) {ee : Nat} {te : Tok} {nr : NR} (hnr : t[ee]? = some nr) (hek : nr.kind = "element") (hza : nr.ats.length ≤ 1000)
    {nv uv lv vv : Value} {n u l v : Str} (hn : SV n nv) (hu : SV u uv) (hl : SV l lv) (hv : SV v vv) (hno : ∀ j ∈ nr.ats, ∃ nj, t[j]? = some nj ∧ ¬ (nj.uri = u ∧ nj.loc = l)) :
    Calls prog w O A (.ref 249) [.ref T.x, .int ee te, nv, uv, lv, vv] g (treeLed T) (fun w mu' => NV' t.length w ∧ Became T ((t ++ [nrOf "attribute" n u l v (some ee)]).set ee { nr with ats := nr.ats ++ [t.length] }) mu') := by
  refine Calls.fn (n := 4) [("value", vv), ("local", lv), ("uri", uv), ("name", nv), ("element", .int ee te), ("self", .ref T.x)] G hA (by k_is) (by k_is) (fun _ _ => BindsTo.of_eq rfl) (locs rfl) ?_ (by rfl) (by rfl) (by rfl) (by decide)
  intro L s env c hA G
  have hh : c.A.handled = none := hA.handled
  obtain ⟨V, hV, hR⟩ := hT.rows.get hnr
  have hlen := hT.rows.len
  have hpl : ee < t.length := (List.getElem?_eq_some_iff.mp hnr).1
  have t1 := tree_t1 (T := T)
  have t2 := tree_t2 (T := T)
  have t3 := tree_t3 (T := T)
  refine hide ?_
  intro X_ k_
  first | (refine ex2 (tree_r hV) ?_; rintro r1 r2 hr_; first | (refine and3 hr_ ?_; clear hr_; rintro - r4 -) | obtain ⟨-, r4, -⟩ := hr_) | (refine ex1 (tree_r hV) ?_; rintro r1 hr_; first | (refine and4 hr_ ?_; clear hr_; rintro r2 - r4 -) | (refine and3 hr_ ?_; clear hr_; rintro r2 - ⟨r4, -⟩) | obtain ⟨r2, -, r4, -⟩ := hr_) | (first | (refine and5 (tree_r hV) ?_; rintro r1 r2 - r4 -) | (refine and4 (tree_r hV) ?_; rintro r1 r2 - ⟨r4, -⟩) | (refine and3 (tree_r hV) ?_; rintro r1 r2 ⟨-, r4, -⟩) | obtain ⟨r1, r2, -, r4, -⟩ := (tree_r hV))
  refine k_ ?_
  clear k_ X_
  walk_at "ms"
  walk_at "mmeth"
  walk_at "ms"
  refine w_callPure _ (fun g' h1 h2 => elementRow_ok G hA.le hT (fun p hp => h2 p hp) hV (hek ▸ hR.kind)) ?_
  rintro _ rfl
  walk_at "ms"
  walk_at "mget"
  refine w_pad ?_
  refine w_freeze (fr := treeLed T) (mu := []) ?_
  refine w_forSrc (src_lst hh (.inr r4) fun _ => dr_name) (fun i st => st.mu = [] ∧ st.m "self" = some (.ref T.x) ∧ st.m "row" = some (.ref V.y) ∧ st.m "element" = some (.int ee te) ∧ st.m "name" = some nv ∧ st.m "uri" = some uv ∧ st.m "local" = some lv ∧ st.m "value" = some vv) ?h0 ?turn ?fin
  case h0 => exact ⟨rfl, by walk_at "ml0", by walk_at "ml0", by walk_at "ml0", by walk_at "ml0", by walk_at "ml0", by walk_at "ml0", by walk_at "ml0"⟩
  case turn =>
    rintro i v' ⟨m, mu⟩ g' hi hv' h_6 hg'
    refine hide ?_
    intro X_ k_
    first | (refine ex7 h_6 ?_; clear h_6; rintro hmu m1 m2 m3 m4 m5 m6 m7) | (refine ex6 h_6 ?_; clear h_6; rintro hmu m1 m2 m3 m4 m5 hr_; first | obtain ⟨m6, m7⟩ := hr_) | (refine ex5 h_6 ?_; clear h_6; rintro hmu m1 m2 m3 m4 hr_; first | (refine and3 hr_ ?_; clear hr_; rintro m5 m6 m7) | obtain ⟨m5, m6, m7⟩ := hr_) | (refine ex4 h_6 ?_; clear h_6; rintro hmu m1 m2 m3 hr_; first | (refine and4 hr_ ?_; clear hr_; rintro m4 m5 m6 m7) | (refine and3 hr_ ?_; clear hr_; rintro m4 m5 ⟨m6, m7⟩) | obtain ⟨m4, m5, m6, m7⟩ := hr_) | (refine ex3 h_6 ?_; clear h_6; rintro hmu m1 m2 hr_; first | (refine and5 hr_ ?_; clear hr_; rintro m3 m4 m5 m6 m7) | (refine and4 hr_ ?_; clear hr_; rintro m3 m4 m5 ⟨m6, m7⟩) | (refine and3 hr_ ?_; clear hr_; rintro m3 m4 ⟨m5, m6, m7⟩) | obtain ⟨m3, m4, m5, m6, m7⟩ := hr_) | (refine ex2 h_6 ?_; clear h_6; rintro hmu m1 hr_; first | (refine and6 hr_ ?_; clear hr_; rintro m2 m3 m4 m5 m6 m7) | (refine and5 hr_ ?_; clear hr_; rintro m2 m3 m4 m5 ⟨m6, m7⟩) | (refine and4 hr_ ?_; clear hr_; rintro m2 m3 m4 ⟨m5, m6, m7⟩) | (refine and3 hr_ ?_; clear hr_; rintro m2 m3 ⟨m4, m5, m6, m7⟩) | obtain ⟨m2, m3, m4, m5, m6, m7⟩ := hr_) | (refine ex1 h_6 ?_; clear h_6; rintro hmu hr_; first | (refine and7 hr_ ?_; clear hr_; rintro m1 m2 m3 m4 m5 m6 m7) | (refine and6 hr_ ?_; clear hr_; rintro m1 m2 m3 m4 m5 ⟨m6, m7⟩) | (refine and5 hr_ ?_; clear hr_; rintro m1 m2 m3 m4 ⟨m5, m6, m7⟩) | (refine and4 hr_ ?_; clear hr_; rintro m1 m2 m3 ⟨m4, m5, m6, m7⟩) | (refine and3 hr_ ?_; clear hr_; rintro m1 m2 ⟨m3, m4, m5, m6, m7⟩) | obtain ⟨m1, m2, m3, m4, m5, m6, m7⟩ := hr_) | (first | (refine and8 h_6 ?_; clear h_6; rintro hmu m1 m2 m3 m4 m5 m6 m7) | (refine and7 h_6 ?_; clear h_6; rintro hmu m1 m2 m3 m4 m5 ⟨m6, m7⟩) | (refine and6 h_6 ?_; clear h_6; rintro hmu m1 m2 m3 m4 ⟨m5, m6, m7⟩) | (refine and5 h_6 ?_; clear h_6; rintro hmu m1 m2 m3 ⟨m4, m5, m6, m7⟩) | (refine and4 h_6 ?_; clear h_6; rintro hmu m1 m2 ⟨m3, m4, m5, m6, m7⟩) | (refine and3 h_6 ?_; clear h_6; rintro hmu m1 ⟨m2, m3, m4, m5, m6, m7⟩) | obtain ⟨hmu, m1, m2, m3, m4, m5, m6, m7⟩ := h_6)
    refine k_ ?_
    clear k_ X_
    dsimp only at hmu m1 m2 m3 m4 m5 m6 m7
    subst hmu
    refine hide ?_
    intro X_ k_
    first | (refine ex3 (hR.ats.get' hv') ?_; rintro j hj tj rfl) | (refine ex2 (hR.ats.get' hv') ?_; rintro j hj hr_; first | obtain ⟨tj, rfl⟩ := hr_) | (refine ex1 (hR.ats.get' hv') ?_; rintro j hr_; first | (refine and3 hr_ ?_; clear hr_; rintro hj tj rfl) | obtain ⟨hj, tj, rfl⟩ := hr_) | (first | (refine and4 (hR.ats.get' hv') ?_; rintro j hj tj rfl) | (refine and3 (hR.ats.get' hv') ?_; rintro j hj ⟨tj, rfl⟩) | obtain ⟨j, hj, tj, rfl⟩ := (hR.ats.get' hv'))
    refine k_ ?_
    clear k_ X_
    obtain ⟨nj, hnj, hne⟩ := hno j (List.mem_of_getElem? hj)
    obtain ⟨Vj, hVj, hRj⟩ := hT.rows.get hnj
    have k1 := hg' _ _ (.inr t1)
    have k2 := hg' _ _ (.inr t2)
    have k3 := hg' _ _ (.inr t3)
    refine hide ?_
    intro X_ k_
    first | (refine ex2 (tree_r hVj) ?_; rintro q1 q2 hr_; first | (refine and3 hr_ ?_; clear hr_; rintro - - -) | obtain ⟨-, -, -⟩ := hr_) | (refine ex1 (tree_r hVj) ?_; rintro q1 hr_; first | (refine and4 hr_ ?_; clear hr_; rintro q2 - - -) | (refine and3 hr_ ?_; clear hr_; rintro q2 - ⟨-, -⟩) | obtain ⟨q2, -, -, -⟩ := hr_) | (first | (refine and5 (tree_r hVj) ?_; rintro q1 q2 - - -) | (refine and4 (tree_r hVj) ?_; rintro q1 q2 - ⟨-, -⟩) | (refine and3 (tree_r hVj) ?_; rintro q1 q2 ⟨-, -, -⟩) | obtain ⟨q1, q2, -, -, -⟩ := (tree_r hVj))
    refine k_ ?_
    clear k_ X_
    have k4 := hg' _ _ (.inr q1)
    have k5 := hg' _ _ (.inr q2)
    have kh1 := hRj.uri.handed
    have kh2 := hRj.loc.handed
    obtain ⟨tu, rfl⟩ := hu
    obtain ⟨tl, rfl⟩ := hl
    walk_at "ms"
    walk_at "mget"
    walk_at "ms"
    refine w_itemLst (kn_g k3) (Int.natCast_nonneg _) (rows_at hVj) (by rw [List.length_map, sizeLine_eq]; omega) ?_ sub_name
    walk_at "ms"
    walk_at "mget"
    obtain ⟨s1, e1⟩ := hRj.uri
    obtain ⟨s2, e2⟩ := hRj.loc
    rw [e1]
    walk_at "ms"
    refine Br.of (fun he => ?_) (fun he => ?_)
    · walk_at "ms"
      walk_at "mget"
      rw [e2]
      walk_at "ms"
      refine Br.of (fun he2 => ?_) (fun he2 => ?_)
      · exact absurd ⟨by simpa using he, by simpa using he2⟩ hne
      · walk_at "ms"
        exact ⟨rfl, by walk_at "ml0", by walk_at "ml0", by walk_at "ml0", by walk_at "ml0", by walk_at "ml0", by walk_at "ml0", by walk_at "ml0"⟩
    · walk_at "ms"
      exact ⟨rfl, by walk_at "ml0", by walk_at "ml0", by walk_at "ml0", by walk_at "ml0", by walk_at "ml0", by walk_at "ml0", by walk_at "ml0"⟩
  case fin =>
    rintro ⟨m, mu⟩ h_1
    refine hide ?_
    intro X_ k_
    first | (refine ex7 h_1 ?_; clear h_1; rintro hmu m1 m2 m3 m4 m5 m6 m7) | (refine ex6 h_1 ?_; clear h_1; rintro hmu m1 m2 m3 m4 m5 hr_; first | obtain ⟨m6, m7⟩ := hr_) | (refine ex5 h_1 ?_; clear h_1; rintro hmu m1 m2 m3 m4 hr_; first | (refine and3 hr_ ?_; clear hr_; rintro m5 m6 m7) | obtain ⟨m5, m6, m7⟩ := hr_) | (refine ex4 h_1 ?_; clear h_1; rintro hmu m1 m2 m3 hr_; first | (refine and4 hr_ ?_; clear hr_; rintro m4 m5 m6 m7) | (refine and3 hr_ ?_; clear hr_; rintro m4 m5 ⟨m6, m7⟩) | obtain ⟨m4, m5, m6, m7⟩ := hr_) | (refine ex3 h_1 ?_; clear h_1; rintro hmu m1 m2 hr_; first | (refine and5 hr_ ?_; clear hr_; rintro m3 m4 m5 m6 m7) | (refine and4 hr_ ?_; clear hr_; rintro m3 m4 m5 ⟨m6, m7⟩) | (refine and3 hr_ ?_; clear hr_; rintro m3 m4 ⟨m5, m6, m7⟩) | obtain ⟨m3, m4, m5, m6, m7⟩ := hr_) | (refine ex2 h_1 ?_; clear h_1; rintro hmu m1 hr_; first | (refine and6 hr_ ?_; clear hr_; rintro m2 m3 m4 m5 m6 m7) | (refine and5 hr_ ?_; clear hr_; rintro m2 m3 m4 m5 ⟨m6, m7⟩) | (refine and4 hr_ ?_; clear hr_; rintro m2 m3 m4 ⟨m5, m6, m7⟩) | (refine and3 hr_ ?_; clear hr_; rintro m2 m3 ⟨m4, m5, m6, m7⟩) | obtain ⟨m2, m3, m4, m5, m6, m7⟩ := hr_) | (refine ex1 h_1 ?_; clear h_1; rintro hmu hr_; first | (refine and7 hr_ ?_; clear hr_; rintro m1 m2 m3 m4 m5 m6 m7) | (refine and6 hr_ ?_; clear hr_; rintro m1 m2 m3 m4 m5 ⟨m6, m7⟩) | (refine and5 hr_ ?_; clear hr_; rintro m1 m2 m3 m4 ⟨m5, m6, m7⟩) | (refine and4 hr_ ?_; clear hr_; rintro m1 m2 m3 ⟨m4, m5, m6, m7⟩) | (refine and3 hr_ ?_; clear hr_; rintro m1 m2 ⟨m3, m4, m5, m6, m7⟩) | obtain ⟨m1, m2, m3, m4, m5, m6, m7⟩ := hr_) | (first | (refine and8 h_1 ?_; clear h_1; rintro hmu m1 m2 m3 m4 m5 m6 m7) | (refine and7 h_1 ?_; clear h_1; rintro hmu m1 m2 m3 m4 m5 ⟨m6, m7⟩) | (refine and6 h_1 ?_; clear h_1; rintro hmu m1 m2 m3 m4 ⟨m5, m6, m7⟩) | (refine and5 h_1 ?_; clear h_1; rintro hmu m1 m2 m3 ⟨m4, m5, m6, m7⟩) | (refine and4 h_1 ?_; clear h_1; rintro hmu m1 m2 ⟨m3, m4, m5, m6, m7⟩) | (refine and3 h_1 ?_; clear h_1; rintro hmu m1 ⟨m2, m3, m4, m5, m6, m7⟩) | obtain ⟨hmu, m1, m2, m3, m4, m5, m6, m7⟩ := h_1)
    refine k_ ?_
    clear k_ X_
    dsimp only at hmu m1 m2 m3 m4 m5 m6 m7
    subst hmu
    refine Seq.next ?_
    rw [List.append_nil]
    walk_at "ms"
    walk_at "mmeth"
    walk_at "ms"
    refine w_pad ?_
    refine w_call _ (fun g' h1 h2 => newRow_ok G hA.le hT hz ⟨_, rfl⟩ hn hu hl hv (p := some ee) ⟨te, rfl⟩) ?_
    rintro _ _ h_2
    refine hide ?_
    intro X_ k_
    first | (first | (refine and4 h_2 ?_; clear h_2; rintro ⟨tn, rfl⟩ Vn rfl hT') | (refine and3 h_2 ?_; clear h_2; rintro ⟨tn, rfl⟩ Vn ⟨rfl, hT'⟩) | obtain ⟨⟨tn, rfl⟩, Vn, rfl, hT'⟩ := h_2)
    refine k_ ?_
    clear k_ X_
    rw [List.append_nil]
    have hV' : (T.vs ++ [Vn])[ee]? = some V := by rw [List.getElem?_append_left (by omega)]; exact hV
    refine hide ?_
    intro X_ k_
    first | (refine ex2 (tree_r (T := { T with vs := T.vs ++ [Vn] }) hV') ?_; rintro r1' r2' hr_; first | (refine and3 hr_ ?_; clear hr_; rintro - r4' -) | obtain ⟨-, r4', -⟩ := hr_) | (refine ex1 (tree_r (T := { T with vs := T.vs ++ [Vn] }) hV') ?_; rintro r1' hr_; first | (refine and4 hr_ ?_; clear hr_; rintro r2' - r4' -) | (refine and3 hr_ ?_; clear hr_; rintro r2' - ⟨r4', -⟩) | obtain ⟨r2', -, r4', -⟩ := hr_) | (first | (refine and5 (tree_r (T := { T with vs := T.vs ++ [Vn] }) hV') ?_; rintro r1' r2' - r4' -) | (refine and4 (tree_r (T := { T with vs := T.vs ++ [Vn] }) hV') ?_; rintro r1' r2' - ⟨r4', -⟩) | (refine and3 (tree_r (T := { T with vs := T.vs ++ [Vn] }) hV') ?_; rintro r1' r2' ⟨-, r4', -⟩) | obtain ⟨r1', r2', -, r4', -⟩ := (tree_r (T := { T with vs := T.vs ++ [Vn] }) hV'))
    refine k_ ?_
    clear k_ X_
    walk_at "ms"
    walk_at "mget"
    refine m_list_append (kn_mu r4') ?_
    walk_at "ms"
    have hcl := hR.ats.len
    refine w_append (vs := V.as) (x := .int t.length tn) (up_tree (T := { T with vs := T.vs ++ [Vn] }) (V := V) (V' := { V with as := V.as ++ [.int t.length tn] }) (Up.tail Up.head) rfl hV') (by rw [sizeLine_eq]; omega) ?_
    walk_at "ms"
    refine ⟨⟨tn, rfl⟩, { T with vs := (T.vs ++ [Vn]).set ee { V with as := V.as ++ [.int t.length tn] } }, rfl, rfl, ?_, ?_⟩
    · exact Each.set ⟨hR.kind, hR.name, hR.uri, hR.loc, hR.value, hR.parent, hR.ch, hR.ats.snoc ⟨tn, rfl⟩, hR.nss, by have := hR.small; simp; omega⟩ ee hT'.rows
    · rw [List.length_set, List.length_append]; simp; omega
end
end Mine
end -- F11

section -- F12
open PySem PySem.W PySem.Calls PyProof.Rows PySem.Builtin
namespace Mine
section
variable {prog : Program} {w : World} {O : Heap} {A : Around} {P : Params} {mg mb : Str → Option Value} {g : Kn}

theorem addNamespace_ok (G : Gnd (hk.heap_1 P) O mg mb) (hA : Amb A 5) {T : TA} {t : List NR} (hT : TreeIs T t) (hz : t.length ≤ 1000) {ee : Nat} {te : Tok} {nr : NR} (hnr : t[ee]? = some nr) (hek : nr.kind = "element") (hza : nr.nss.length ≤ 1000)
    {nv uv : Value} {n u : Str} (hn : SV n nv) (hu : SV u uv) (hno : ∀ j ∈ nr.nss, ∃ nj, t[j]? = some nj ∧ nj.name ≠ n) :
    Calls prog w O A (.ref 256) [.ref T.x, .int ee te, nv, uv] g (treeLed T) (fun w mu' => NV' t.length w ∧ Became T ((t ++ [nrOf "namespace" n "" n u (some ee)]).set ee { nr with nss := nr.nss ++ [t.length] }) mu') := by
  refine Calls.fn (n := 4) [("uri", uv), ("prefix", nv), ("element", .int ee te), ("self", .ref T.x)] G hA (by k_is) (by k_is) (fun _ _ => BindsTo.of_eq rfl) (locs rfl) ?_ (by rfl) (by rfl) (by rfl) (by decide)
  intro L s env c hA G
  have hh : c.A.handled = none := hA.handled
  obtain ⟨V, hV, hR⟩ := hT.rows.get hnr
  have hlen := hT.rows.len
  have hpl : ee < t.length := (List.getElem?_eq_some_iff.mp hnr).1
  have t1 := tree_t1 (T := T)
  have t2 := tree_t2 (T := T)
  have t3 := tree_t3 (T := T)
  refine hide ?_
  intro X_ k_
  first | (refine ex2 (tree_r hV) ?_; rintro r1 r2 hr_; first | (refine and3 hr_ ?_; clear hr_; rintro - - r4) | obtain ⟨-, -, r4⟩ := hr_) | (refine ex1 (tree_r hV) ?_; rintro r1 hr_; first | (refine and4 hr_ ?_; clear hr_; rintro r2 - - r4) | (refine and3 hr_ ?_; clear hr_; rintro r2 - ⟨-, r4⟩) | obtain ⟨r2, -, -, r4⟩ := hr_) | (first | (refine and5 (tree_r hV) ?_; rintro r1 r2 - - r4) | (refine and4 (tree_r hV) ?_; rintro r1 r2 - ⟨-, r4⟩) | (refine and3 (tree_r hV) ?_; rintro r1 r2 ⟨-, -, r4⟩) | obtain ⟨r1, r2, -, -, r4⟩ := (tree_r hV))
  refine k_ ?_
  clear k_ X_
  walk_at "ms"
  walk_at "mmeth"
  walk_at "ms"
  refine w_callPure _ (fun g' h1 h2 => elementRow_ok G hA.le hT (fun p hp => h2 p hp) hV (hek ▸ hR.kind)) ?_
  rintro _ rfl
  walk_at "ms"
  walk_at "mget"
  refine w_pad ?_
  refine w_freeze (fr := treeLed T) (mu := []) ?_
  refine w_forSrc (src_lst hh (.inr r4) fun _ => dr_name) (fun i st => st.mu = [] ∧ st.m "self" = some (.ref T.x) ∧ st.m "row" = some (.ref V.y) ∧ st.m "element" = some (.int ee te) ∧ st.m "prefix" = some nv ∧ st.m "uri" = some uv) ?h0 ?turn ?fin
  case h0 => exact ⟨rfl, by walk_at "ml0", by walk_at "ml0", by walk_at "ml0", by walk_at "ml0", by walk_at "ml0"⟩
  case turn =>
    rintro i v' ⟨m, mu⟩ g' hi hv' h_6 hg'
    refine hide ?_
    intro X_ k_
    first | (refine ex5 h_6 ?_; clear h_6; rintro hmu m1 m2 m3 m4 m5) | (refine ex4 h_6 ?_; clear h_6; rintro hmu m1 m2 m3 hr_; first | obtain ⟨m4, m5⟩ := hr_) | (refine ex3 h_6 ?_; clear h_6; rintro hmu m1 m2 hr_; first | (refine and3 hr_ ?_; clear hr_; rintro m3 m4 m5) | obtain ⟨m3, m4, m5⟩ := hr_) | (refine ex2 h_6 ?_; clear h_6; rintro hmu m1 hr_; first | (refine and4 hr_ ?_; clear hr_; rintro m2 m3 m4 m5) | (refine and3 hr_ ?_; clear hr_; rintro m2 m3 ⟨m4, m5⟩) | obtain ⟨m2, m3, m4, m5⟩ := hr_) | (refine ex1 h_6 ?_; clear h_6; rintro hmu hr_; first | (refine and5 hr_ ?_; clear hr_; rintro m1 m2 m3 m4 m5) | (refine and4 hr_ ?_; clear hr_; rintro m1 m2 m3 ⟨m4, m5⟩) | (refine and3 hr_ ?_; clear hr_; rintro m1 m2 ⟨m3, m4, m5⟩) | obtain ⟨m1, m2, m3, m4, m5⟩ := hr_) | (first | (refine and6 h_6 ?_; clear h_6; rintro hmu m1 m2 m3 m4 m5) | (refine and5 h_6 ?_; clear h_6; rintro hmu m1 m2 m3 ⟨m4, m5⟩) | (refine and4 h_6 ?_; clear h_6; rintro hmu m1 m2 ⟨m3, m4, m5⟩) | (refine and3 h_6 ?_; clear h_6; rintro hmu m1 ⟨m2, m3, m4, m5⟩) | obtain ⟨hmu, m1, m2, m3, m4, m5⟩ := h_6)
    refine k_ ?_
    clear k_ X_
    dsimp only at hmu m1 m2 m3 m4 m5
    subst hmu
    refine hide ?_
    intro X_ k_
    first | (refine ex3 (hR.nss.get' hv') ?_; rintro j hj tj rfl) | (refine ex2 (hR.nss.get' hv') ?_; rintro j hj hr_; first | obtain ⟨tj, rfl⟩ := hr_) | (refine ex1 (hR.nss.get' hv') ?_; rintro j hr_; first | (refine and3 hr_ ?_; clear hr_; rintro hj tj rfl) | obtain ⟨hj, tj, rfl⟩ := hr_) | (first | (refine and4 (hR.nss.get' hv') ?_; rintro j hj tj rfl) | (refine and3 (hR.nss.get' hv') ?_; rintro j hj ⟨tj, rfl⟩) | obtain ⟨j, hj, tj, rfl⟩ := (hR.nss.get' hv'))
    refine k_ ?_
    clear k_ X_
    obtain ⟨nj, hnj, hne⟩ := hno j (List.mem_of_getElem? hj)
    obtain ⟨Vj, hVj, hRj⟩ := hT.rows.get hnj
    have k1 := hg' _ _ (.inr t1)
    have k2 := hg' _ _ (.inr t2)
    have k3 := hg' _ _ (.inr t3)
    refine hide ?_
    intro X_ k_
    first | (refine ex2 (tree_r hVj) ?_; rintro q1 q2 hr_; first | (refine and3 hr_ ?_; clear hr_; rintro - - -) | obtain ⟨-, -, -⟩ := hr_) | (refine ex1 (tree_r hVj) ?_; rintro q1 hr_; first | (refine and4 hr_ ?_; clear hr_; rintro q2 - - -) | (refine and3 hr_ ?_; clear hr_; rintro q2 - ⟨-, -⟩) | obtain ⟨q2, -, -, -⟩ := hr_) | (first | (refine and5 (tree_r hVj) ?_; rintro q1 q2 - - -) | (refine and4 (tree_r hVj) ?_; rintro q1 q2 - ⟨-, -⟩) | (refine and3 (tree_r hVj) ?_; rintro q1 q2 ⟨-, -, -⟩) | obtain ⟨q1, q2, -, -, -⟩ := (tree_r hVj))
    refine k_ ?_
    clear k_ X_
    have k4 := hg' _ _ (.inr q1)
    have k5 := hg' _ _ (.inr q2)
    have kh1 := hRj.name.handed
    obtain ⟨tn, rfl⟩ := hn
    walk_at "ms"
    walk_at "mget"
    walk_at "ms"
    refine w_itemLst (kn_g k3) (Int.natCast_nonneg _) (rows_at hVj) (by rw [List.length_map, sizeLine_eq]; omega) ?_ sub_name
    walk_at "ms"
    walk_at "mget"
    obtain ⟨s1, e1⟩ := hRj.name
    rw [e1]
    walk_at "ms"
    refine Br.of (fun he => ?_) (fun he => ?_)
    · exact absurd (by simpa using he) hne
    · walk_at "ms"
      exact ⟨rfl, by walk_at "ml0", by walk_at "ml0", by walk_at "ml0", by walk_at "ml0", by walk_at "ml0"⟩
  case fin =>
    rintro ⟨m, mu⟩ h_1
    refine hide ?_
    intro X_ k_
    first | (refine ex5 h_1 ?_; clear h_1; rintro hmu m1 m2 m3 m4 m5) | (refine ex4 h_1 ?_; clear h_1; rintro hmu m1 m2 m3 hr_; first | obtain ⟨m4, m5⟩ := hr_) | (refine ex3 h_1 ?_; clear h_1; rintro hmu m1 m2 hr_; first | (refine and3 hr_ ?_; clear hr_; rintro m3 m4 m5) | obtain ⟨m3, m4, m5⟩ := hr_) | (refine ex2 h_1 ?_; clear h_1; rintro hmu m1 hr_; first | (refine and4 hr_ ?_; clear hr_; rintro m2 m3 m4 m5) | (refine and3 hr_ ?_; clear hr_; rintro m2 m3 ⟨m4, m5⟩) | obtain ⟨m2, m3, m4, m5⟩ := hr_) | (refine ex1 h_1 ?_; clear h_1; rintro hmu hr_; first | (refine and5 hr_ ?_; clear hr_; rintro m1 m2 m3 m4 m5) | (refine and4 hr_ ?_; clear hr_; rintro m1 m2 m3 ⟨m4, m5⟩) | (refine and3 hr_ ?_; clear hr_; rintro m1 m2 ⟨m3, m4, m5⟩) | obtain ⟨m1, m2, m3, m4, m5⟩ := hr_) | (first | (refine and6 h_1 ?_; clear h_1; rintro hmu m1 m2 m3 m4 m5) | (refine and5 h_1 ?_; clear h_1; rintro hmu m1 m2 m3 ⟨m4, m5⟩) | (refine and4 h_1 ?_; clear h_1; rintro hmu m1 m2 ⟨m3, m4, m5⟩) | (refine and3 h_1 ?_; clear h_1; rintro hmu m1 ⟨m2, m3, m4, m5⟩) | obtain ⟨hmu, m1, m2, m3, m4, m5⟩ := h_1)
    refine k_ ?_
    clear k_ X_
    dsimp only at hmu m1 m2 m3 m4 m5
    subst hmu
    refine Seq.next ?_
    rw [List.append_nil]
    walk_at "ms"
    walk_at "mmeth"
    walk_at "ms"
    refine w_pad ?_
    refine w_call _ (fun g' h1 h2 => newRow_ok G hA.le hT hz ⟨_, rfl⟩ hn ⟨_, rfl⟩ hn hu (p := some ee) ⟨te, rfl⟩) ?_
    rintro _ _ h_2
    refine hide ?_
    intro X_ k_
    first | (first | (refine and4 h_2 ?_; clear h_2; rintro ⟨tn, rfl⟩ Vn rfl hT') | (refine and3 h_2 ?_; clear h_2; rintro ⟨tn, rfl⟩ Vn ⟨rfl, hT'⟩) | obtain ⟨⟨tn, rfl⟩, Vn, rfl, hT'⟩ := h_2)
    refine k_ ?_
    clear k_ X_
    rw [List.append_nil]
    have hV' : (T.vs ++ [Vn])[ee]? = some V := by rw [List.getElem?_append_left (by omega)]; exact hV
    refine hide ?_
    intro X_ k_
    first | (refine ex2 (tree_r (T := { T with vs := T.vs ++ [Vn] }) hV') ?_; rintro r1' r2' hr_; first | (refine and3 hr_ ?_; clear hr_; rintro - - r4') | obtain ⟨-, -, r4'⟩ := hr_) | (refine ex1 (tree_r (T := { T with vs := T.vs ++ [Vn] }) hV') ?_; rintro r1' hr_; first | (refine and4 hr_ ?_; clear hr_; rintro r2' - - r4') | (refine and3 hr_ ?_; clear hr_; rintro r2' - ⟨-, r4'⟩) | obtain ⟨r2', -, -, r4'⟩ := hr_) | (first | (refine and5 (tree_r (T := { T with vs := T.vs ++ [Vn] }) hV') ?_; rintro r1' r2' - - r4') | (refine and4 (tree_r (T := { T with vs := T.vs ++ [Vn] }) hV') ?_; rintro r1' r2' - ⟨-, r4'⟩) | (refine and3 (tree_r (T := { T with vs := T.vs ++ [Vn] }) hV') ?_; rintro r1' r2' ⟨-, -, r4'⟩) | obtain ⟨r1', r2', -, -, r4'⟩ := (tree_r (T := { T with vs := T.vs ++ [Vn] }) hV'))
    refine k_ ?_
    clear k_ X_
    walk_at "ms"
    walk_at "mget"
    refine m_list_append (kn_mu r4') ?_
    walk_at "ms"
    have hcl := hR.nss.len
    refine w_append (vs := V.ns) (x := .int t.length tn) (up_tree (T := { T with vs := T.vs ++ [Vn] }) (V := V) (V' := { V with ns := V.ns ++ [.int t.length tn] }) Up.head rfl hV') (by rw [sizeLine_eq]; omega) ?_
    walk_at "ms"
    refine ⟨⟨tn, rfl⟩, { T with vs := (T.vs ++ [Vn]).set ee { V with ns := V.ns ++ [.int t.length tn] } }, rfl, rfl, ?_, ?_⟩
    · exact Each.set ⟨hR.kind, hR.name, hR.uri, hR.loc, hR.value, hR.parent, hR.ch, hR.ats, hR.nss.snoc ⟨tn, rfl⟩, by have := hR.small; simp; omega⟩ ee hT'.rows
    · rw [List.length_set, List.length_append]; simp; omega
end
end Mine
end -- F12

section -- F13
open PySem PySem.W PySem.Calls PyProof.Rows PySem.Builtin
namespace Mine
section
variable {prog : Program} {w : World} {O : Heap} {A : Around} {P : Params} {mg mb : Str → Option Value} {g : Kn}

noncomputable def qn (p l : Str) : Str := if p = "" then l else p ++ ":" ++ l
noncomputable def nsRow (e : Nat) (p : Str × Str) : NR := nrOf "namespace" p.1 "" p.1 p.2 (some e)
noncomputable def atRow (e : Nat) (p : Str × Str × Str) : NR := nrOf "attribute" (qn p.1 p.2.1) (uriOf p.1) p.2.1 p.2.2 (some e)
noncomputable def elRow (ab : Nat) (nm lc : Str) (ns at' ch : List Nat) : NR := ⟨"element", nm, "", lc, "", some ab, ch, at', ns⟩
noncomputable def ix (k n : Nat) : List Nat := (List.range n).map (k + ·)
theorem ix_succ (k n : Nat) : ix k (n + 1) = ix k n ++ [k + n] := by unfold ix; rw [List.range_succ, List.map_append]; rfl
/-- the element at hand: its row, its namespaces, its attributes -/
noncomputable def elBlock (ab e : Nat) (nm lc : Str) (us : List (Str × Str)) (as : List (Str × Str × Str)) (ch : List Nat) : List NR :=
  elRow ab nm lc (ix (e + 1) us.length) (ix (e + 1 + us.length) as.length) ch :: (us.map (nsRow e) ++ as.map (atRow e))
theorem elBlock_len {ab e : Nat} {nm lc : Str} {us : List (Str × Str)} {as : List (Str × Str × Str)} {ch : List Nat} : (elBlock ab e nm lc us as ch).length = 1 + us.length + as.length := by
  unfold elBlock; simp; omega
theorem set_mid {α : Type} (xs : List α) (y z : α) (r : List α) : (xs ++ y :: r).set xs.length z = xs ++ z :: r := by
  rw [List.set_append_right _ _ (Nat.le_refl _), Nat.sub_self]; rfl
theorem step_ns {T0 : List NR} {ab : Nat} {nm lc : Str} {us : List (Str × Str)} {p : Str × Str} {ch : List Nat} :
    ((T0 ++ elBlock ab T0.length nm lc us [] ch) ++ [nsRow T0.length p]).set T0.length { elRow ab nm lc (ix (T0.length + 1) us.length) (ix (T0.length + 1 + us.length) 0) ch with nss := ix (T0.length + 1) us.length ++ [(T0 ++ elBlock ab T0.length nm lc us [] ch).length] } =
      T0 ++ elBlock ab T0.length nm lc (us ++ [p]) [] ch := by
  have e1 : (T0 ++ elBlock ab T0.length nm lc us [] ch).length = T0.length + 1 + us.length := by rw [List.length_append, elBlock_len]; simp; omega
  rw [e1]
  unfold elBlock
  rw [List.append_assoc, List.cons_append, set_mid]
  refine congrArg (T0 ++ ·) (List.cons_eq_cons.mpr ⟨?_, ?_⟩)
  · unfold elRow
    rw [List.length_append, List.length_singleton, ix_succ]
    rfl
  · simp
theorem step_at {T0 : List NR} {ab : Nat} {nm lc : Str} {us : List (Str × Str)} {as : List (Str × Str × Str)} {p : Str × Str × Str} {ch : List Nat} :
    ((T0 ++ elBlock ab T0.length nm lc us as ch) ++ [atRow T0.length p]).set T0.length { elRow ab nm lc (ix (T0.length + 1) us.length) (ix (T0.length + 1 + us.length) as.length) ch with ats := ix (T0.length + 1 + us.length) as.length ++ [(T0 ++ elBlock ab T0.length nm lc us as ch).length] } =
      T0 ++ elBlock ab T0.length nm lc us (as ++ [p]) ch := by
  have e1 : (T0 ++ elBlock ab T0.length nm lc us as ch).length = T0.length + 1 + us.length + as.length := by rw [List.length_append, elBlock_len]; omega
  rw [e1]
  unfold elBlock
  rw [List.append_assoc, List.cons_append, set_mid]
  refine congrArg (T0 ++ ·) (List.cons_eq_cons.mpr ⟨?_, ?_⟩)
  · unfold elRow
    rw [List.length_append, List.length_singleton, ix_succ]
  · simp

noncomputable def addCh (t : List NR) (ab e : Nat) : List NR := match t[ab]? with
  | some nr => t.set ab { nr with ch := nr.ch ++ [e] }
  | none => t
theorem addCh_len (t : List NR) (ab e : Nat) : (addCh t ab e).length = t.length := by
  unfold addCh
  split
  · rw [List.length_set]
  · rfl
noncomputable def rowBlock (ab e : Nat) (lc : Str) (r : Row) : List NR :=
  if r.text = "" then elBlock ab e r.name lc r.uris r.attrs [] else elBlock ab e r.name lc r.uris r.attrs [e + 1 + r.uris.length + r.attrs.length] ++ [nrOf "text" "" "" "" r.text (some e)]
theorem step_tx {T0 : List NR} {ab : Nat} {nm lc : Str} {us : List (Str × Str)} {as : List (Str × Str × Str)} {X : NR} :
    ((T0 ++ elBlock ab T0.length nm lc us as []) ++ [X]).set T0.length { elRow ab nm lc (ix (T0.length + 1) us.length) (ix (T0.length + 1 + us.length) as.length) [] with ch := [] ++ [(T0 ++ elBlock ab T0.length nm lc us as []).length] } =
      T0 ++ (elBlock ab T0.length nm lc us as [T0.length + 1 + us.length + as.length] ++ [X]) := by
  have e1 : (T0 ++ elBlock ab T0.length nm lc us as []).length = T0.length + 1 + us.length + as.length := by rw [List.length_append, elBlock_len]; omega
  rw [e1]
  unfold elBlock
  rw [List.append_assoc, List.cons_append, set_mid]
  rfl
theorem rowBlock_len {ab e : Nat} {lc : Str} {r : Row} : (rowBlock ab e lc r).length ≤ 2 + r.uris.length + r.attrs.length := by
  unfold rowBlock
  split
  · rw [elBlock_len]; omega
  · rw [List.length_append, elBlock_len]; simp; omega
/-- the rows one after the other -/
noncomputable def Steps : List NR → Nat → List Row → List NR → List Nat → Prop
  | t, _, [], t', fs => t' = t ∧ fs = []
  | t, ab, r :: rs, t', fs => ∃ lc fs', fs = t.length :: fs' ∧ Steps (addCh t ab t.length ++ rowBlock ab t.length lc r) t.length rs t' fs'
structure RowB (r : Row) : Prop where
  name : r.name ∈ nameL
  upre : (r.uris.map (·.1)).Nodup
  ats : (r.attrs.map fun p => (uriOf p.1, p.2.1)).Nodup
  apre : ∀ p ∈ r.attrs, p.1 ∈ prefL ∧ p.2.1.length ≤ 100
  ulen : r.uris.length ≤ 10
  alen : r.attrs.length ≤ 10

theorem el_at {T0 : List NR} {ab : Nat} {nm lc : Str} {us : List (Str × Str)} {as : List (Str × Str × Str)} {ch : List Nat} {r : List NR} :
    (T0 ++ elBlock ab T0.length nm lc us as ch ++ r)[T0.length]? = some (elRow ab nm lc (ix (T0.length + 1) us.length) (ix (T0.length + 1 + us.length) as.length) ch) := by
  rw [List.append_assoc, List.getElem?_append_right (Nat.le_refl _), Nat.sub_self]
  rfl
theorem ns_at {T0 : List NR} {ab : Nat} {nm lc : Str} {us : List (Str × Str)} {as : List (Str × Str × Str)} {ch : List Nat} {r : List NR} {a : Nat} {p : Str × Str} (h : us[a]? = some p) :
    (T0 ++ elBlock ab T0.length nm lc us as ch ++ r)[T0.length + 1 + a]? = some (nsRow T0.length p) := by
  have ha : a < us.length := (List.getElem?_eq_some_iff.mp h).1
  rw [List.append_assoc, List.getElem?_append_right (by omega), show T0.length + 1 + a - T0.length = a + 1 by omega]
  unfold elBlock
  rw [List.cons_append, List.getElem?_cons_succ, List.append_assoc, List.getElem?_append_left (by rw [List.length_map]; exact ha), List.getElem?_map, h]
  rfl
theorem at_at {T0 : List NR} {ab : Nat} {nm lc : Str} {us : List (Str × Str)} {as : List (Str × Str × Str)} {ch : List Nat} {r : List NR} {a : Nat} {p : Str × Str × Str} (h : as[a]? = some p) :
    (T0 ++ elBlock ab T0.length nm lc us as ch ++ r)[T0.length + 1 + us.length + a]? = some (atRow T0.length p) := by
  have ha : a < as.length := (List.getElem?_eq_some_iff.mp h).1
  rw [List.append_assoc, List.getElem?_append_right (by omega), show T0.length + 1 + us.length + a - T0.length = us.length + a + 1 by omega]
  unfold elBlock
  rw [List.cons_append, List.getElem?_cons_succ, List.append_assoc, List.getElem?_append_right (by rw [List.length_map]; omega), List.length_map, show us.length + a - us.length = a by omega,
    List.getElem?_append_left (by rw [List.length_map]; exact ha), List.getElem?_map, h]
  rfl
theorem mem_ix {k n j : Nat} (h : j ∈ ix k n) : ∃ a, a < n ∧ j = k + a := by
  unfold ix at h
  obtain ⟨a, ha, e⟩ := List.mem_map.mp h
  exact ⟨a, List.mem_range.mp ha, e.symm⟩
theorem nodup_ne {α : Type} {l : List α} (h : l.Nodup) {i j : Nat} {x y : α} (hij : i < j) (hx : l[i]? = some x) (hy : l[j]? = some y) : x ≠ y := by
  obtain ⟨h1, e1⟩ := List.getElem?_eq_some_iff.mp hx
  obtain ⟨h2, e2⟩ := List.getElem?_eq_some_iff.mp hy
  intro e
  have := (List.nodup_iff_pairwise_ne.mp h)
  exact (List.pairwise_iff_getElem.mp this i j h1 h2 hij) (by rw [e1, e2, e])
theorem nameFacts {n : Str} (h : n ∈ nameL) : (n.length ≤ 3 ∧ (Txt.split n ":").length ≤ 10) ∧ (Builtin.Str.partsBetween n (Builtin.Str.occurrences n ":" 0 n.length (n.length + 1)) (Str.ofString ":").length).length ≤ 10 ∧ ∃ lc, (Txt.split n ":").getLast? = some lc := by
  have h' : n = "e" ∨ n = "q:c" ∨ n = "c" := by simpa [nameL] using h
  rcases h' with rfl | rfl | rfl
  · exact ⟨⟨by decide +kernel, by decide +kernel⟩, by decide +kernel, "e", by decide +kernel⟩
  · exact ⟨⟨by decide +kernel, by decide +kernel⟩, by decide +kernel, "c", by decide +kernel⟩
  · exact ⟨⟨by decide +kernel, by decide +kernel⟩, by decide +kernel, "c", by decide +kernel⟩
theorem last_of {l : List (Str × Tok)} {xs : List Str} {lc : Str} (h : l.map (·.1) = xs) (e : xs.getLast? = some lc) : ∃ t, (strValues l).getLast? = some (.str lc t) := by
  subst h
  rw [List.getLast?_map] at e
  cases hl : l.getLast? with
  | none => rw [hl] at e; cases e
  | some p =>
    rw [hl] at e
    refine ⟨p.2, ?_⟩
    unfold strValues
    rw [List.getLast?_map, hl]
    cases e
    rfl
theorem step_el {t : List NR} {ab : Nat} {nr : NR} {nm lc : Str} (h : t[ab]? = some nr) : (t ++ [nrOf "element" nm "" lc "" (some ab)]).set ab { nr with ch := nr.ch ++ [t.length] } = addCh t ab t.length ++ elBlock ab (addCh t ab t.length).length nm lc [] [] [] := by
  have hl : ab < t.length := (List.getElem?_eq_some_iff.mp h).1
  rw [addCh_len]
  unfold addCh
  rw [h]
  dsimp only
  rw [List.set_append_left _ _ hl]
  rfl
noncomputable def rootNR (ch : List Nat) : NR := ⟨"root", "", "", "", "", none, ch, [], []⟩
theorem built_ok (G : Gnd (hk.heap_1 P) O mg mb) (hA : Amb A 8) {rs : Addr} {vs : List Value} {rows : List Row} (hg : g rs (.lst vs)) (hr : Each (RowV g) rows vs) (hb : ∀ r ∈ rows, RowB r) (hz : rows.length ≤ 10) :
    Calls prog w O A (.ref 427) [.ref rs] g [] (fun v mu' => ∃ a f fs fv T t pre mu₁, v = .ref a ∧ mu' = (a, .tup [.ref T.x, .ref f]) :: (treeLed T ++ (pre ++ (f, .lst fv) :: mu₁)) ∧ TreeIs T t ∧ Each NV' fs fv ∧ Steps [rootNR []] 0 rows t fs) := by
  refine Calls.fn (n := 7) [("rows", .ref rs)] G hA (by k_is) (by k_is) (fun _ _ => BindsTo.of_eq rfl) (locs rfl) ?_ (by rfl) (by rfl) (by rfl) (by decide)
  intro L s env c hA G
  have hh : c.A.handled = none := hA.handled
  refine w_seq (w_assignSwap (names := ["tree", "found"]) ?_ (by rfl) (by rfl))
  walk_at "ms"
  refine w_make (C := 350) (fI := 179) G (by k_is) (by k_is) (by k_is) (fun x d mu' => ∃ r, mu' = [(r, .lst []), (x, .inst 350 d), (d, .att [("rows", .ref r)])]) (fun x d g' h1 h2 => treeInit_ok G (Amb.make (n := 6) hA).le) ?_
  rintro x d _ ⟨r, rfl⟩
  walk_at "ms"
  rename_i f tt
  have hT0 : TreeIs ⟨x, d, r, []⟩ [] := ⟨trivial, by simp⟩
  refine w_turn (treeLed ⟨x, d, r, []⟩ ++ [(f, .lst []), (tt, .tup [.ref x, .ref f])]) ?_ ?_
  · exact (List.reverse_perm [(tt, Sh.tup [.ref x, .ref f]), (f, .lst []), (r, .lst []), (x, .inst 350 d), (d, .att [("rows", .ref r)])]).symm.trans (List.Perm.swap ..)
  have t1 : (x, Sh.inst 350 d) ∈ treeLed ⟨x, d, r, []⟩ ++ [(f, .lst []), (tt, .tup [.ref x, .ref f])] := List.mem_append_left _ (tree_t1 (T := ⟨x, d, r, []⟩))
  have t2 : (d, Sh.att [("rows", .ref r)]) ∈ treeLed ⟨x, d, r, []⟩ ++ [(f, .lst []), (tt, .tup [.ref x, .ref f])] := List.mem_append_left _ (tree_t2 (T := ⟨x, d, r, []⟩))
  walk_at "ms"
  walk_at "mmeth"
  walk_at "ms"
  refine w_call _ (fun g' h1 h2 => newRoot_ok G hA.le hT0 (by simp)) ?_
  rintro _ _ h_2
  refine hide ?_
  intro X_ k_
  first | (first | (refine and4 h_2 ?_; clear h_2; rintro ⟨tr, rfl⟩ V rfl hT1) | (refine and3 h_2 ?_; clear h_2; rintro ⟨tr, rfl⟩ V ⟨rfl, hT1⟩) | obtain ⟨⟨tr, rfl⟩, V, rfl, hT1⟩ := h_2)
  refine k_ ?_
  clear k_ X_
  walk_at "ms"
  refine w_forSrc (src_lst hh hg fun _ => dr_tupL) (fun i st => ∃ (T : TA) (t : List NR) (ab : Nat) (ta : Tok) (fs : List Nat) (fv : List Value) (pre0 r0 : Led) (nr : NR), T.x = x ∧ st.mu = treeLed T ++ (pre0 ++ (f, .lst fv) :: r0) ∧ TreeIs T t ∧ Each NV' fs fv ∧ fs.length = i ∧ t[ab]? = some nr ∧ (nr.kind = Str.ofString "root" ∨ nr.kind = Str.ofString "element") ∧ nr.ch.length ≤ 1 ∧ t.length ≤ 1 + 22 * i ∧
    (∀ rest t' fs', Steps t ab rest t' fs' → Steps [rootNR []] 0 (rows.take i ++ rest) t' (fs ++ fs')) ∧ st.m "tree" = some (.ref x) ∧ st.m "found" = some (.ref f) ∧ st.m "above" = some (.int ab ta)) ?h0 ?turn ?fin
  case h0 =>
    refine ⟨_, _, 0, tr, [], [], [], _, rootNR [], rfl, rfl, hT1, trivial, rfl, rfl, .inl rfl, by simp [rootNR], by simp, fun rest t' fs' h => h, ?_, ?_, ?_⟩
    · walk_at "ml0"
    · walk_at "ml0"
    · simp [over]
  case turn =>
    rintro i v ⟨m, mu⟩ g' hi hv h_6 hg'
    refine hide ?_
    intro X_ k_
    first | (refine ex9 h_6 ?_; clear h_6; rintro T t ab ta fs fv pre0 r0 nr hr_; first | (refine and13 hr_ ?_; clear hr_; rintro rfl hmu hT hF hn hab hk hc hl hS m1 m2 m3) | (refine and12 hr_ ?_; clear hr_; rintro rfl hmu hT hF hn hab hk hc hl hS m1 ⟨m2, m3⟩) | (refine and11 hr_ ?_; clear hr_; rintro rfl hmu hT hF hn hab hk hc hl hS ⟨m1, m2, m3⟩) | (refine and10 hr_ ?_; clear hr_; rintro rfl hmu hT hF hn hab hk hc hl ⟨hS, m1, m2, m3⟩) | (refine and9 hr_ ?_; clear hr_; rintro rfl hmu hT hF hn hab hk hc ⟨hl, hS, m1, m2, m3⟩) | (refine and8 hr_ ?_; clear hr_; rintro rfl hmu hT hF hn hab hk ⟨hc, hl, hS, m1, m2, m3⟩) | (refine and7 hr_ ?_; clear hr_; rintro rfl hmu hT hF hn hab ⟨hk, hc, hl, hS, m1, m2, m3⟩) | (refine and6 hr_ ?_; clear hr_; rintro rfl hmu hT hF hn ⟨hab, hk, hc, hl, hS, m1, m2, m3⟩) | (refine and5 hr_ ?_; clear hr_; rintro rfl hmu hT hF ⟨hn, hab, hk, hc, hl, hS, m1, m2, m3⟩) | (refine and4 hr_ ?_; clear hr_; rintro rfl hmu hT ⟨hF, hn, hab, hk, hc, hl, hS, m1, m2, m3⟩) | (refine and3 hr_ ?_; clear hr_; rintro rfl hmu ⟨hT, hF, hn, hab, hk, hc, hl, hS, m1, m2, m3⟩) | obtain ⟨rfl, hmu, hT, hF, hn, hab, hk, hc, hl, hS, m1, m2, m3⟩ := hr_) | (refine ex8 h_6 ?_; clear h_6; rintro T t ab ta fs fv pre0 r0 hr_; first | (refine and14 hr_ ?_; clear hr_; rintro nr rfl hmu hT hF hn hab hk hc hl hS m1 m2 m3) | (refine and13 hr_ ?_; clear hr_; rintro nr rfl hmu hT hF hn hab hk hc hl hS m1 ⟨m2, m3⟩) | (refine and12 hr_ ?_; clear hr_; rintro nr rfl hmu hT hF hn hab hk hc hl hS ⟨m1, m2, m3⟩) | (refine and11 hr_ ?_; clear hr_; rintro nr rfl hmu hT hF hn hab hk hc hl ⟨hS, m1, m2, m3⟩) | (refine and10 hr_ ?_; clear hr_; rintro nr rfl hmu hT hF hn hab hk hc ⟨hl, hS, m1, m2, m3⟩) | (refine and9 hr_ ?_; clear hr_; rintro nr rfl hmu hT hF hn hab hk ⟨hc, hl, hS, m1, m2, m3⟩) | (refine and8 hr_ ?_; clear hr_; rintro nr rfl hmu hT hF hn hab ⟨hk, hc, hl, hS, m1, m2, m3⟩) | (refine and7 hr_ ?_; clear hr_; rintro nr rfl hmu hT hF hn ⟨hab, hk, hc, hl, hS, m1, m2, m3⟩) | (refine and6 hr_ ?_; clear hr_; rintro nr rfl hmu hT hF ⟨hn, hab, hk, hc, hl, hS, m1, m2, m3⟩) | (refine and5 hr_ ?_; clear hr_; rintro nr rfl hmu hT ⟨hF, hn, hab, hk, hc, hl, hS, m1, m2, m3⟩) | (refine and4 hr_ ?_; clear hr_; rintro nr rfl hmu ⟨hT, hF, hn, hab, hk, hc, hl, hS, m1, m2, m3⟩) | (refine and3 hr_ ?_; clear hr_; rintro nr rfl ⟨hmu, hT, hF, hn, hab, hk, hc, hl, hS, m1, m2, m3⟩) | obtain ⟨nr, rfl, hmu, hT, hF, hn, hab, hk, hc, hl, hS, m1, m2, m3⟩ := hr_) | (refine ex7 h_6 ?_; clear h_6; rintro T t ab ta fs fv pre0 hr_; first | (refine and15 hr_ ?_; clear hr_; rintro r0 nr rfl hmu hT hF hn hab hk hc hl hS m1 m2 m3) | (refine and14 hr_ ?_; clear hr_; rintro r0 nr rfl hmu hT hF hn hab hk hc hl hS m1 ⟨m2, m3⟩) | (refine and13 hr_ ?_; clear hr_; rintro r0 nr rfl hmu hT hF hn hab hk hc hl hS ⟨m1, m2, m3⟩) | (refine and12 hr_ ?_; clear hr_; rintro r0 nr rfl hmu hT hF hn hab hk hc hl ⟨hS, m1, m2, m3⟩) | (refine and11 hr_ ?_; clear hr_; rintro r0 nr rfl hmu hT hF hn hab hk hc ⟨hl, hS, m1, m2, m3⟩) | (refine and10 hr_ ?_; clear hr_; rintro r0 nr rfl hmu hT hF hn hab hk ⟨hc, hl, hS, m1, m2, m3⟩) | (refine and9 hr_ ?_; clear hr_; rintro r0 nr rfl hmu hT hF hn hab ⟨hk, hc, hl, hS, m1, m2, m3⟩) | (refine and8 hr_ ?_; clear hr_; rintro r0 nr rfl hmu hT hF hn ⟨hab, hk, hc, hl, hS, m1, m2, m3⟩) | (refine and7 hr_ ?_; clear hr_; rintro r0 nr rfl hmu hT hF ⟨hn, hab, hk, hc, hl, hS, m1, m2, m3⟩) | (refine and6 hr_ ?_; clear hr_; rintro r0 nr rfl hmu hT ⟨hF, hn, hab, hk, hc, hl, hS, m1, m2, m3⟩) | (refine and5 hr_ ?_; clear hr_; rintro r0 nr rfl hmu ⟨hT, hF, hn, hab, hk, hc, hl, hS, m1, m2, m3⟩) | (refine and4 hr_ ?_; clear hr_; rintro r0 nr rfl ⟨hmu, hT, hF, hn, hab, hk, hc, hl, hS, m1, m2, m3⟩) | (refine and3 hr_ ?_; clear hr_; rintro r0 nr ⟨rfl, hmu, hT, hF, hn, hab, hk, hc, hl, hS, m1, m2, m3⟩) | obtain ⟨r0, nr, rfl, hmu, hT, hF, hn, hab, hk, hc, hl, hS, m1, m2, m3⟩ := hr_) | (refine ex6 h_6 ?_; clear h_6; rintro T t ab ta fs fv hr_; first | (refine and16 hr_ ?_; clear hr_; rintro pre0 r0 nr rfl hmu hT hF hn hab hk hc hl hS m1 m2 m3) | (refine and15 hr_ ?_; clear hr_; rintro pre0 r0 nr rfl hmu hT hF hn hab hk hc hl hS m1 ⟨m2, m3⟩) | (refine and14 hr_ ?_; clear hr_; rintro pre0 r0 nr rfl hmu hT hF hn hab hk hc hl hS ⟨m1, m2, m3⟩) | (refine and13 hr_ ?_; clear hr_; rintro pre0 r0 nr rfl hmu hT hF hn hab hk hc hl ⟨hS, m1, m2, m3⟩) | (refine and12 hr_ ?_; clear hr_; rintro pre0 r0 nr rfl hmu hT hF hn hab hk hc ⟨hl, hS, m1, m2, m3⟩) | (refine and11 hr_ ?_; clear hr_; rintro pre0 r0 nr rfl hmu hT hF hn hab hk ⟨hc, hl, hS, m1, m2, m3⟩) | (refine and10 hr_ ?_; clear hr_; rintro pre0 r0 nr rfl hmu hT hF hn hab ⟨hk, hc, hl, hS, m1, m2, m3⟩) | (refine and9 hr_ ?_; clear hr_; rintro pre0 r0 nr rfl hmu hT hF hn ⟨hab, hk, hc, hl, hS, m1, m2, m3⟩) | (refine and8 hr_ ?_; clear hr_; rintro pre0 r0 nr rfl hmu hT hF ⟨hn, hab, hk, hc, hl, hS, m1, m2, m3⟩) | (refine and7 hr_ ?_; clear hr_; rintro pre0 r0 nr rfl hmu hT ⟨hF, hn, hab, hk, hc, hl, hS, m1, m2, m3⟩) | (refine and6 hr_ ?_; clear hr_; rintro pre0 r0 nr rfl hmu ⟨hT, hF, hn, hab, hk, hc, hl, hS, m1, m2, m3⟩) | (refine and5 hr_ ?_; clear hr_; rintro pre0 r0 nr rfl ⟨hmu, hT, hF, hn, hab, hk, hc, hl, hS, m1, m2, m3⟩) | (refine and4 hr_ ?_; clear hr_; rintro pre0 r0 nr ⟨rfl, hmu, hT, hF, hn, hab, hk, hc, hl, hS, m1, m2, m3⟩) | (refine and3 hr_ ?_; clear hr_; rintro pre0 r0 ⟨nr, rfl, hmu, hT, hF, hn, hab, hk, hc, hl, hS, m1, m2, m3⟩) | obtain ⟨pre0, r0, nr, rfl, hmu, hT, hF, hn, hab, hk, hc, hl, hS, m1, m2, m3⟩ := hr_) | (refine ex5 h_6 ?_; clear h_6; rintro T t ab ta fs hr_; first | (refine and16 hr_ ?_; clear hr_; rintro fv pre0 r0 nr rfl hmu hT hF hn hab hk hc hl hS m1 ⟨m2, m3⟩) | (refine and15 hr_ ?_; clear hr_; rintro fv pre0 r0 nr rfl hmu hT hF hn hab hk hc hl hS ⟨m1, m2, m3⟩) | (refine and14 hr_ ?_; clear hr_; rintro fv pre0 r0 nr rfl hmu hT hF hn hab hk hc hl ⟨hS, m1, m2, m3⟩) | (refine and13 hr_ ?_; clear hr_; rintro fv pre0 r0 nr rfl hmu hT hF hn hab hk hc ⟨hl, hS, m1, m2, m3⟩) | (refine and12 hr_ ?_; clear hr_; rintro fv pre0 r0 nr rfl hmu hT hF hn hab hk ⟨hc, hl, hS, m1, m2, m3⟩) | (refine and11 hr_ ?_; clear hr_; rintro fv pre0 r0 nr rfl hmu hT hF hn hab ⟨hk, hc, hl, hS, m1, m2, m3⟩) | (refine and10 hr_ ?_; clear hr_; rintro fv pre0 r0 nr rfl hmu hT hF hn ⟨hab, hk, hc, hl, hS, m1, m2, m3⟩) | (refine and9 hr_ ?_; clear hr_; rintro fv pre0 r0 nr rfl hmu hT hF ⟨hn, hab, hk, hc, hl, hS, m1, m2, m3⟩) | (refine and8 hr_ ?_; clear hr_; rintro fv pre0 r0 nr rfl hmu hT ⟨hF, hn, hab, hk, hc, hl, hS, m1, m2, m3⟩) | (refine and7 hr_ ?_; clear hr_; rintro fv pre0 r0 nr rfl hmu ⟨hT, hF, hn, hab, hk, hc, hl, hS, m1, m2, m3⟩) | (refine and6 hr_ ?_; clear hr_; rintro fv pre0 r0 nr rfl ⟨hmu, hT, hF, hn, hab, hk, hc, hl, hS, m1, m2, m3⟩) | (refine and5 hr_ ?_; clear hr_; rintro fv pre0 r0 nr ⟨rfl, hmu, hT, hF, hn, hab, hk, hc, hl, hS, m1, m2, m3⟩) | (refine and4 hr_ ?_; clear hr_; rintro fv pre0 r0 ⟨nr, rfl, hmu, hT, hF, hn, hab, hk, hc, hl, hS, m1, m2, m3⟩) | (refine and3 hr_ ?_; clear hr_; rintro fv pre0 ⟨r0, nr, rfl, hmu, hT, hF, hn, hab, hk, hc, hl, hS, m1, m2, m3⟩) | obtain ⟨fv, pre0, r0, nr, rfl, hmu, hT, hF, hn, hab, hk, hc, hl, hS, m1, m2, m3⟩ := hr_) | (refine ex4 h_6 ?_; clear h_6; rintro T t ab ta hr_; first | (refine and16 hr_ ?_; clear hr_; rintro fs fv pre0 r0 nr rfl hmu hT hF hn hab hk hc hl hS ⟨m1, m2, m3⟩) | (refine and15 hr_ ?_; clear hr_; rintro fs fv pre0 r0 nr rfl hmu hT hF hn hab hk hc hl ⟨hS, m1, m2, m3⟩) | (refine and14 hr_ ?_; clear hr_; rintro fs fv pre0 r0 nr rfl hmu hT hF hn hab hk hc ⟨hl, hS, m1, m2, m3⟩) | (refine and13 hr_ ?_; clear hr_; rintro fs fv pre0 r0 nr rfl hmu hT hF hn hab hk ⟨hc, hl, hS, m1, m2, m3⟩) | (refine and12 hr_ ?_; clear hr_; rintro fs fv pre0 r0 nr rfl hmu hT hF hn hab ⟨hk, hc, hl, hS, m1, m2, m3⟩) | (refine and11 hr_ ?_; clear hr_; rintro fs fv pre0 r0 nr rfl hmu hT hF hn ⟨hab, hk, hc, hl, hS, m1, m2, m3⟩) | (refine and10 hr_ ?_; clear hr_; rintro fs fv pre0 r0 nr rfl hmu hT hF ⟨hn, hab, hk, hc, hl, hS, m1, m2, m3⟩) | (refine and9 hr_ ?_; clear hr_; rintro fs fv pre0 r0 nr rfl hmu hT ⟨hF, hn, hab, hk, hc, hl, hS, m1, m2, m3⟩) | (refine and8 hr_ ?_; clear hr_; rintro fs fv pre0 r0 nr rfl hmu ⟨hT, hF, hn, hab, hk, hc, hl, hS, m1, m2, m3⟩) | (refine and7 hr_ ?_; clear hr_; rintro fs fv pre0 r0 nr rfl ⟨hmu, hT, hF, hn, hab, hk, hc, hl, hS, m1, m2, m3⟩) | (refine and6 hr_ ?_; clear hr_; rintro fs fv pre0 r0 nr ⟨rfl, hmu, hT, hF, hn, hab, hk, hc, hl, hS, m1, m2, m3⟩) | (refine and5 hr_ ?_; clear hr_; rintro fs fv pre0 r0 ⟨nr, rfl, hmu, hT, hF, hn, hab, hk, hc, hl, hS, m1, m2, m3⟩) | (refine and4 hr_ ?_; clear hr_; rintro fs fv pre0 ⟨r0, nr, rfl, hmu, hT, hF, hn, hab, hk, hc, hl, hS, m1, m2, m3⟩) | (refine and3 hr_ ?_; clear hr_; rintro fs fv ⟨pre0, r0, nr, rfl, hmu, hT, hF, hn, hab, hk, hc, hl, hS, m1, m2, m3⟩) | obtain ⟨fs, fv, pre0, r0, nr, rfl, hmu, hT, hF, hn, hab, hk, hc, hl, hS, m1, m2, m3⟩ := hr_) | (refine ex3 h_6 ?_; clear h_6; rintro T t ab hr_; first | (refine and16 hr_ ?_; clear hr_; rintro ta fs fv pre0 r0 nr rfl hmu hT hF hn hab hk hc hl ⟨hS, m1, m2, m3⟩) | (refine and15 hr_ ?_; clear hr_; rintro ta fs fv pre0 r0 nr rfl hmu hT hF hn hab hk hc ⟨hl, hS, m1, m2, m3⟩) | (refine and14 hr_ ?_; clear hr_; rintro ta fs fv pre0 r0 nr rfl hmu hT hF hn hab hk ⟨hc, hl, hS, m1, m2, m3⟩) | (refine and13 hr_ ?_; clear hr_; rintro ta fs fv pre0 r0 nr rfl hmu hT hF hn hab ⟨hk, hc, hl, hS, m1, m2, m3⟩) | (refine and12 hr_ ?_; clear hr_; rintro ta fs fv pre0 r0 nr rfl hmu hT hF hn ⟨hab, hk, hc, hl, hS, m1, m2, m3⟩) | (refine and11 hr_ ?_; clear hr_; rintro ta fs fv pre0 r0 nr rfl hmu hT hF ⟨hn, hab, hk, hc, hl, hS, m1, m2, m3⟩) | (refine and10 hr_ ?_; clear hr_; rintro ta fs fv pre0 r0 nr rfl hmu hT ⟨hF, hn, hab, hk, hc, hl, hS, m1, m2, m3⟩) | (refine and9 hr_ ?_; clear hr_; rintro ta fs fv pre0 r0 nr rfl hmu ⟨hT, hF, hn, hab, hk, hc, hl, hS, m1, m2, m3⟩) | (refine and8 hr_ ?_; clear hr_; rintro ta fs fv pre0 r0 nr rfl ⟨hmu, hT, hF, hn, hab, hk, hc, hl, hS, m1, m2, m3⟩) | (refine and7 hr_ ?_; clear hr_; rintro ta fs fv pre0 r0 nr ⟨rfl, hmu, hT, hF, hn, hab, hk, hc, hl, hS, m1, m2, m3⟩) | (refine and6 hr_ ?_; clear hr_; rintro ta fs fv pre0 r0 ⟨nr, rfl, hmu, hT, hF, hn, hab, hk, hc, hl, hS, m1, m2, m3⟩) | (refine and5 hr_ ?_; clear hr_; rintro ta fs fv pre0 ⟨r0, nr, rfl, hmu, hT, hF, hn, hab, hk, hc, hl, hS, m1, m2, m3⟩) | (refine and4 hr_ ?_; clear hr_; rintro ta fs fv ⟨pre0, r0, nr, rfl, hmu, hT, hF, hn, hab, hk, hc, hl, hS, m1, m2, m3⟩) | (refine and3 hr_ ?_; clear hr_; rintro ta fs ⟨fv, pre0, r0, nr, rfl, hmu, hT, hF, hn, hab, hk, hc, hl, hS, m1, m2, m3⟩) | obtain ⟨ta, fs, fv, pre0, r0, nr, rfl, hmu, hT, hF, hn, hab, hk, hc, hl, hS, m1, m2, m3⟩ := hr_) | (refine ex2 h_6 ?_; clear h_6; rintro T t hr_; first | (refine and16 hr_ ?_; clear hr_; rintro ab ta fs fv pre0 r0 nr rfl hmu hT hF hn hab hk hc ⟨hl, hS, m1, m2, m3⟩) | (refine and15 hr_ ?_; clear hr_; rintro ab ta fs fv pre0 r0 nr rfl hmu hT hF hn hab hk ⟨hc, hl, hS, m1, m2, m3⟩) | (refine and14 hr_ ?_; clear hr_; rintro ab ta fs fv pre0 r0 nr rfl hmu hT hF hn hab ⟨hk, hc, hl, hS, m1, m2, m3⟩) | (refine and13 hr_ ?_; clear hr_; rintro ab ta fs fv pre0 r0 nr rfl hmu hT hF hn ⟨hab, hk, hc, hl, hS, m1, m2, m3⟩) | (refine and12 hr_ ?_; clear hr_; rintro ab ta fs fv pre0 r0 nr rfl hmu hT hF ⟨hn, hab, hk, hc, hl, hS, m1, m2, m3⟩) | (refine and11 hr_ ?_; clear hr_; rintro ab ta fs fv pre0 r0 nr rfl hmu hT ⟨hF, hn, hab, hk, hc, hl, hS, m1, m2, m3⟩) | (refine and10 hr_ ?_; clear hr_; rintro ab ta fs fv pre0 r0 nr rfl hmu ⟨hT, hF, hn, hab, hk, hc, hl, hS, m1, m2, m3⟩) | (refine and9 hr_ ?_; clear hr_; rintro ab ta fs fv pre0 r0 nr rfl ⟨hmu, hT, hF, hn, hab, hk, hc, hl, hS, m1, m2, m3⟩) | (refine and8 hr_ ?_; clear hr_; rintro ab ta fs fv pre0 r0 nr ⟨rfl, hmu, hT, hF, hn, hab, hk, hc, hl, hS, m1, m2, m3⟩) | (refine and7 hr_ ?_; clear hr_; rintro ab ta fs fv pre0 r0 ⟨nr, rfl, hmu, hT, hF, hn, hab, hk, hc, hl, hS, m1, m2, m3⟩) | (refine and6 hr_ ?_; clear hr_; rintro ab ta fs fv pre0 ⟨r0, nr, rfl, hmu, hT, hF, hn, hab, hk, hc, hl, hS, m1, m2, m3⟩) | (refine and5 hr_ ?_; clear hr_; rintro ab ta fs fv ⟨pre0, r0, nr, rfl, hmu, hT, hF, hn, hab, hk, hc, hl, hS, m1, m2, m3⟩) | (refine and4 hr_ ?_; clear hr_; rintro ab ta fs ⟨fv, pre0, r0, nr, rfl, hmu, hT, hF, hn, hab, hk, hc, hl, hS, m1, m2, m3⟩) | (refine and3 hr_ ?_; clear hr_; rintro ab ta ⟨fs, fv, pre0, r0, nr, rfl, hmu, hT, hF, hn, hab, hk, hc, hl, hS, m1, m2, m3⟩) | obtain ⟨ab, ta, fs, fv, pre0, r0, nr, rfl, hmu, hT, hF, hn, hab, hk, hc, hl, hS, m1, m2, m3⟩ := hr_) | (refine ex1 h_6 ?_; clear h_6; rintro T hr_; first | (refine and16 hr_ ?_; clear hr_; rintro t ab ta fs fv pre0 r0 nr rfl hmu hT hF hn hab hk ⟨hc, hl, hS, m1, m2, m3⟩) | (refine and15 hr_ ?_; clear hr_; rintro t ab ta fs fv pre0 r0 nr rfl hmu hT hF hn hab ⟨hk, hc, hl, hS, m1, m2, m3⟩) | (refine and14 hr_ ?_; clear hr_; rintro t ab ta fs fv pre0 r0 nr rfl hmu hT hF hn ⟨hab, hk, hc, hl, hS, m1, m2, m3⟩) | (refine and13 hr_ ?_; clear hr_; rintro t ab ta fs fv pre0 r0 nr rfl hmu hT hF ⟨hn, hab, hk, hc, hl, hS, m1, m2, m3⟩) | (refine and12 hr_ ?_; clear hr_; rintro t ab ta fs fv pre0 r0 nr rfl hmu hT ⟨hF, hn, hab, hk, hc, hl, hS, m1, m2, m3⟩) | (refine and11 hr_ ?_; clear hr_; rintro t ab ta fs fv pre0 r0 nr rfl hmu ⟨hT, hF, hn, hab, hk, hc, hl, hS, m1, m2, m3⟩) | (refine and10 hr_ ?_; clear hr_; rintro t ab ta fs fv pre0 r0 nr rfl ⟨hmu, hT, hF, hn, hab, hk, hc, hl, hS, m1, m2, m3⟩) | (refine and9 hr_ ?_; clear hr_; rintro t ab ta fs fv pre0 r0 nr ⟨rfl, hmu, hT, hF, hn, hab, hk, hc, hl, hS, m1, m2, m3⟩) | (refine and8 hr_ ?_; clear hr_; rintro t ab ta fs fv pre0 r0 ⟨nr, rfl, hmu, hT, hF, hn, hab, hk, hc, hl, hS, m1, m2, m3⟩) | (refine and7 hr_ ?_; clear hr_; rintro t ab ta fs fv pre0 ⟨r0, nr, rfl, hmu, hT, hF, hn, hab, hk, hc, hl, hS, m1, m2, m3⟩) | (refine and6 hr_ ?_; clear hr_; rintro t ab ta fs fv ⟨pre0, r0, nr, rfl, hmu, hT, hF, hn, hab, hk, hc, hl, hS, m1, m2, m3⟩) | (refine and5 hr_ ?_; clear hr_; rintro t ab ta fs ⟨fv, pre0, r0, nr, rfl, hmu, hT, hF, hn, hab, hk, hc, hl, hS, m1, m2, m3⟩) | (refine and4 hr_ ?_; clear hr_; rintro t ab ta ⟨fs, fv, pre0, r0, nr, rfl, hmu, hT, hF, hn, hab, hk, hc, hl, hS, m1, m2, m3⟩) | (refine and3 hr_ ?_; clear hr_; rintro t ab ⟨ta, fs, fv, pre0, r0, nr, rfl, hmu, hT, hF, hn, hab, hk, hc, hl, hS, m1, m2, m3⟩) | obtain ⟨t, ab, ta, fs, fv, pre0, r0, nr, rfl, hmu, hT, hF, hn, hab, hk, hc, hl, hS, m1, m2, m3⟩ := hr_) | (first | (refine and16 h_6 ?_; clear h_6; rintro T t ab ta fs fv pre0 r0 nr rfl hmu hT hF hn hab ⟨hk, hc, hl, hS, m1, m2, m3⟩) | (refine and15 h_6 ?_; clear h_6; rintro T t ab ta fs fv pre0 r0 nr rfl hmu hT hF hn ⟨hab, hk, hc, hl, hS, m1, m2, m3⟩) | (refine and14 h_6 ?_; clear h_6; rintro T t ab ta fs fv pre0 r0 nr rfl hmu hT hF ⟨hn, hab, hk, hc, hl, hS, m1, m2, m3⟩) | (refine and13 h_6 ?_; clear h_6; rintro T t ab ta fs fv pre0 r0 nr rfl hmu hT ⟨hF, hn, hab, hk, hc, hl, hS, m1, m2, m3⟩) | (refine and12 h_6 ?_; clear h_6; rintro T t ab ta fs fv pre0 r0 nr rfl hmu ⟨hT, hF, hn, hab, hk, hc, hl, hS, m1, m2, m3⟩) | (refine and11 h_6 ?_; clear h_6; rintro T t ab ta fs fv pre0 r0 nr rfl ⟨hmu, hT, hF, hn, hab, hk, hc, hl, hS, m1, m2, m3⟩) | (refine and10 h_6 ?_; clear h_6; rintro T t ab ta fs fv pre0 r0 nr ⟨rfl, hmu, hT, hF, hn, hab, hk, hc, hl, hS, m1, m2, m3⟩) | (refine and9 h_6 ?_; clear h_6; rintro T t ab ta fs fv pre0 r0 ⟨nr, rfl, hmu, hT, hF, hn, hab, hk, hc, hl, hS, m1, m2, m3⟩) | (refine and8 h_6 ?_; clear h_6; rintro T t ab ta fs fv pre0 ⟨r0, nr, rfl, hmu, hT, hF, hn, hab, hk, hc, hl, hS, m1, m2, m3⟩) | (refine and7 h_6 ?_; clear h_6; rintro T t ab ta fs fv ⟨pre0, r0, nr, rfl, hmu, hT, hF, hn, hab, hk, hc, hl, hS, m1, m2, m3⟩) | (refine and6 h_6 ?_; clear h_6; rintro T t ab ta fs ⟨fv, pre0, r0, nr, rfl, hmu, hT, hF, hn, hab, hk, hc, hl, hS, m1, m2, m3⟩) | (refine and5 h_6 ?_; clear h_6; rintro T t ab ta ⟨fs, fv, pre0, r0, nr, rfl, hmu, hT, hF, hn, hab, hk, hc, hl, hS, m1, m2, m3⟩) | (refine and4 h_6 ?_; clear h_6; rintro T t ab ⟨ta, fs, fv, pre0, r0, nr, rfl, hmu, hT, hF, hn, hab, hk, hc, hl, hS, m1, m2, m3⟩) | (refine and3 h_6 ?_; clear h_6; rintro T t ⟨ab, ta, fs, fv, pre0, r0, nr, rfl, hmu, hT, hF, hn, hab, hk, hc, hl, hS, m1, m2, m3⟩) | obtain ⟨T, t, ab, ta, fs, fv, pre0, r0, nr, rfl, hmu, hT, hF, hn, hab, hk, hc, hl, hS, m1, m2, m3⟩ := h_6)
    refine k_ ?_
    clear k_ X_
    dsimp only at hmu m1 m2 m3
    subst hmu
    refine hide ?_
    intro X_ k_
    first | (refine ex9 (hr.get' hv) ?_; rintro r hri a tn bu us ba as tx hr_; first | (refine and6 hr_ ?_; clear hr_; rintro rfl h1 h2 h3 h4 h5) | (refine and5 hr_ ?_; clear hr_; rintro rfl h1 h2 h3 ⟨h4, h5⟩) | (refine and4 hr_ ?_; clear hr_; rintro rfl h1 h2 ⟨h3, h4, h5⟩) | (refine and3 hr_ ?_; clear hr_; rintro rfl h1 ⟨h2, h3, h4, h5⟩) | obtain ⟨rfl, h1, h2, h3, h4, h5⟩ := hr_) | (refine ex8 (hr.get' hv) ?_; rintro r hri a tn bu us ba as hr_; first | (refine and7 hr_ ?_; clear hr_; rintro tx rfl h1 h2 h3 h4 h5) | (refine and6 hr_ ?_; clear hr_; rintro tx rfl h1 h2 h3 ⟨h4, h5⟩) | (refine and5 hr_ ?_; clear hr_; rintro tx rfl h1 h2 ⟨h3, h4, h5⟩) | (refine and4 hr_ ?_; clear hr_; rintro tx rfl h1 ⟨h2, h3, h4, h5⟩) | (refine and3 hr_ ?_; clear hr_; rintro tx rfl ⟨h1, h2, h3, h4, h5⟩) | obtain ⟨tx, rfl, h1, h2, h3, h4, h5⟩ := hr_) | (refine ex7 (hr.get' hv) ?_; rintro r hri a tn bu us ba hr_; first | (refine and8 hr_ ?_; clear hr_; rintro as tx rfl h1 h2 h3 h4 h5) | (refine and7 hr_ ?_; clear hr_; rintro as tx rfl h1 h2 h3 ⟨h4, h5⟩) | (refine and6 hr_ ?_; clear hr_; rintro as tx rfl h1 h2 ⟨h3, h4, h5⟩) | (refine and5 hr_ ?_; clear hr_; rintro as tx rfl h1 ⟨h2, h3, h4, h5⟩) | (refine and4 hr_ ?_; clear hr_; rintro as tx rfl ⟨h1, h2, h3, h4, h5⟩) | (refine and3 hr_ ?_; clear hr_; rintro as tx ⟨rfl, h1, h2, h3, h4, h5⟩) | obtain ⟨as, tx, rfl, h1, h2, h3, h4, h5⟩ := hr_) | (refine ex6 (hr.get' hv) ?_; rintro r hri a tn bu us hr_; first | (refine and9 hr_ ?_; clear hr_; rintro ba as tx rfl h1 h2 h3 h4 h5) | (refine and8 hr_ ?_; clear hr_; rintro ba as tx rfl h1 h2 h3 ⟨h4, h5⟩) | (refine and7 hr_ ?_; clear hr_; rintro ba as tx rfl h1 h2 ⟨h3, h4, h5⟩) | (refine and6 hr_ ?_; clear hr_; rintro ba as tx rfl h1 ⟨h2, h3, h4, h5⟩) | (refine and5 hr_ ?_; clear hr_; rintro ba as tx rfl ⟨h1, h2, h3, h4, h5⟩) | (refine and4 hr_ ?_; clear hr_; rintro ba as tx ⟨rfl, h1, h2, h3, h4, h5⟩) | (refine and3 hr_ ?_; clear hr_; rintro ba as ⟨tx, rfl, h1, h2, h3, h4, h5⟩) | obtain ⟨ba, as, tx, rfl, h1, h2, h3, h4, h5⟩ := hr_) | (refine ex5 (hr.get' hv) ?_; rintro r hri a tn bu hr_; first | (refine and10 hr_ ?_; clear hr_; rintro us ba as tx rfl h1 h2 h3 h4 h5) | (refine and9 hr_ ?_; clear hr_; rintro us ba as tx rfl h1 h2 h3 ⟨h4, h5⟩) | (refine and8 hr_ ?_; clear hr_; rintro us ba as tx rfl h1 h2 ⟨h3, h4, h5⟩) | (refine and7 hr_ ?_; clear hr_; rintro us ba as tx rfl h1 ⟨h2, h3, h4, h5⟩) | (refine and6 hr_ ?_; clear hr_; rintro us ba as tx rfl ⟨h1, h2, h3, h4, h5⟩) | (refine and5 hr_ ?_; clear hr_; rintro us ba as tx ⟨rfl, h1, h2, h3, h4, h5⟩) | (refine and4 hr_ ?_; clear hr_; rintro us ba as ⟨tx, rfl, h1, h2, h3, h4, h5⟩) | (refine and3 hr_ ?_; clear hr_; rintro us ba ⟨as, tx, rfl, h1, h2, h3, h4, h5⟩) | obtain ⟨us, ba, as, tx, rfl, h1, h2, h3, h4, h5⟩ := hr_) | (refine ex4 (hr.get' hv) ?_; rintro r hri a tn hr_; first | (refine and11 hr_ ?_; clear hr_; rintro bu us ba as tx rfl h1 h2 h3 h4 h5) | (refine and10 hr_ ?_; clear hr_; rintro bu us ba as tx rfl h1 h2 h3 ⟨h4, h5⟩) | (refine and9 hr_ ?_; clear hr_; rintro bu us ba as tx rfl h1 h2 ⟨h3, h4, h5⟩) | (refine and8 hr_ ?_; clear hr_; rintro bu us ba as tx rfl h1 ⟨h2, h3, h4, h5⟩) | (refine and7 hr_ ?_; clear hr_; rintro bu us ba as tx rfl ⟨h1, h2, h3, h4, h5⟩) | (refine and6 hr_ ?_; clear hr_; rintro bu us ba as tx ⟨rfl, h1, h2, h3, h4, h5⟩) | (refine and5 hr_ ?_; clear hr_; rintro bu us ba as ⟨tx, rfl, h1, h2, h3, h4, h5⟩) | (refine and4 hr_ ?_; clear hr_; rintro bu us ba ⟨as, tx, rfl, h1, h2, h3, h4, h5⟩) | (refine and3 hr_ ?_; clear hr_; rintro bu us ⟨ba, as, tx, rfl, h1, h2, h3, h4, h5⟩) | obtain ⟨bu, us, ba, as, tx, rfl, h1, h2, h3, h4, h5⟩ := hr_) | (refine ex3 (hr.get' hv) ?_; rintro r hri a hr_; first | (refine and12 hr_ ?_; clear hr_; rintro tn bu us ba as tx rfl h1 h2 h3 h4 h5) | (refine and11 hr_ ?_; clear hr_; rintro tn bu us ba as tx rfl h1 h2 h3 ⟨h4, h5⟩) | (refine and10 hr_ ?_; clear hr_; rintro tn bu us ba as tx rfl h1 h2 ⟨h3, h4, h5⟩) | (refine and9 hr_ ?_; clear hr_; rintro tn bu us ba as tx rfl h1 ⟨h2, h3, h4, h5⟩) | (refine and8 hr_ ?_; clear hr_; rintro tn bu us ba as tx rfl ⟨h1, h2, h3, h4, h5⟩) | (refine and7 hr_ ?_; clear hr_; rintro tn bu us ba as tx ⟨rfl, h1, h2, h3, h4, h5⟩) | (refine and6 hr_ ?_; clear hr_; rintro tn bu us ba as ⟨tx, rfl, h1, h2, h3, h4, h5⟩) | (refine and5 hr_ ?_; clear hr_; rintro tn bu us ba ⟨as, tx, rfl, h1, h2, h3, h4, h5⟩) | (refine and4 hr_ ?_; clear hr_; rintro tn bu us ⟨ba, as, tx, rfl, h1, h2, h3, h4, h5⟩) | (refine and3 hr_ ?_; clear hr_; rintro tn bu ⟨us, ba, as, tx, rfl, h1, h2, h3, h4, h5⟩) | obtain ⟨tn, bu, us, ba, as, tx, rfl, h1, h2, h3, h4, h5⟩ := hr_) | (refine ex2 (hr.get' hv) ?_; rintro r hri hr_; first | (refine and13 hr_ ?_; clear hr_; rintro a tn bu us ba as tx rfl h1 h2 h3 h4 h5) | (refine and12 hr_ ?_; clear hr_; rintro a tn bu us ba as tx rfl h1 h2 h3 ⟨h4, h5⟩) | (refine and11 hr_ ?_; clear hr_; rintro a tn bu us ba as tx rfl h1 h2 ⟨h3, h4, h5⟩) | (refine and10 hr_ ?_; clear hr_; rintro a tn bu us ba as tx rfl h1 ⟨h2, h3, h4, h5⟩) | (refine and9 hr_ ?_; clear hr_; rintro a tn bu us ba as tx rfl ⟨h1, h2, h3, h4, h5⟩) | (refine and8 hr_ ?_; clear hr_; rintro a tn bu us ba as tx ⟨rfl, h1, h2, h3, h4, h5⟩) | (refine and7 hr_ ?_; clear hr_; rintro a tn bu us ba as ⟨tx, rfl, h1, h2, h3, h4, h5⟩) | (refine and6 hr_ ?_; clear hr_; rintro a tn bu us ba ⟨as, tx, rfl, h1, h2, h3, h4, h5⟩) | (refine and5 hr_ ?_; clear hr_; rintro a tn bu us ⟨ba, as, tx, rfl, h1, h2, h3, h4, h5⟩) | (refine and4 hr_ ?_; clear hr_; rintro a tn bu ⟨us, ba, as, tx, rfl, h1, h2, h3, h4, h5⟩) | (refine and3 hr_ ?_; clear hr_; rintro a tn ⟨bu, us, ba, as, tx, rfl, h1, h2, h3, h4, h5⟩) | obtain ⟨a, tn, bu, us, ba, as, tx, rfl, h1, h2, h3, h4, h5⟩ := hr_) | (refine ex1 (hr.get' hv) ?_; rintro r hr_; first | (refine and14 hr_ ?_; clear hr_; rintro hri a tn bu us ba as tx rfl h1 h2 h3 h4 h5) | (refine and13 hr_ ?_; clear hr_; rintro hri a tn bu us ba as tx rfl h1 h2 h3 ⟨h4, h5⟩) | (refine and12 hr_ ?_; clear hr_; rintro hri a tn bu us ba as tx rfl h1 h2 ⟨h3, h4, h5⟩) | (refine and11 hr_ ?_; clear hr_; rintro hri a tn bu us ba as tx rfl h1 ⟨h2, h3, h4, h5⟩) | (refine and10 hr_ ?_; clear hr_; rintro hri a tn bu us ba as tx rfl ⟨h1, h2, h3, h4, h5⟩) | (refine and9 hr_ ?_; clear hr_; rintro hri a tn bu us ba as tx ⟨rfl, h1, h2, h3, h4, h5⟩) | (refine and8 hr_ ?_; clear hr_; rintro hri a tn bu us ba as ⟨tx, rfl, h1, h2, h3, h4, h5⟩) | (refine and7 hr_ ?_; clear hr_; rintro hri a tn bu us ba ⟨as, tx, rfl, h1, h2, h3, h4, h5⟩) | (refine and6 hr_ ?_; clear hr_; rintro hri a tn bu us ⟨ba, as, tx, rfl, h1, h2, h3, h4, h5⟩) | (refine and5 hr_ ?_; clear hr_; rintro hri a tn bu ⟨us, ba, as, tx, rfl, h1, h2, h3, h4, h5⟩) | (refine and4 hr_ ?_; clear hr_; rintro hri a tn ⟨bu, us, ba, as, tx, rfl, h1, h2, h3, h4, h5⟩) | (refine and3 hr_ ?_; clear hr_; rintro hri a ⟨tn, bu, us, ba, as, tx, rfl, h1, h2, h3, h4, h5⟩) | obtain ⟨hri, a, tn, bu, us, ba, as, tx, rfl, h1, h2, h3, h4, h5⟩ := hr_) | (first | (refine and15 (hr.get' hv) ?_; rintro r hri a tn bu us ba as tx rfl h1 h2 h3 h4 h5) | (refine and14 (hr.get' hv) ?_; rintro r hri a tn bu us ba as tx rfl h1 h2 h3 ⟨h4, h5⟩) | (refine and13 (hr.get' hv) ?_; rintro r hri a tn bu us ba as tx rfl h1 h2 ⟨h3, h4, h5⟩) | (refine and12 (hr.get' hv) ?_; rintro r hri a tn bu us ba as tx rfl h1 ⟨h2, h3, h4, h5⟩) | (refine and11 (hr.get' hv) ?_; rintro r hri a tn bu us ba as tx rfl ⟨h1, h2, h3, h4, h5⟩) | (refine and10 (hr.get' hv) ?_; rintro r hri a tn bu us ba as tx ⟨rfl, h1, h2, h3, h4, h5⟩) | (refine and9 (hr.get' hv) ?_; rintro r hri a tn bu us ba as ⟨tx, rfl, h1, h2, h3, h4, h5⟩) | (refine and8 (hr.get' hv) ?_; rintro r hri a tn bu us ba ⟨as, tx, rfl, h1, h2, h3, h4, h5⟩) | (refine and7 (hr.get' hv) ?_; rintro r hri a tn bu us ⟨ba, as, tx, rfl, h1, h2, h3, h4, h5⟩) | (refine and6 (hr.get' hv) ?_; rintro r hri a tn bu ⟨us, ba, as, tx, rfl, h1, h2, h3, h4, h5⟩) | (refine and5 (hr.get' hv) ?_; rintro r hri a tn ⟨bu, us, ba, as, tx, rfl, h1, h2, h3, h4, h5⟩) | (refine and4 (hr.get' hv) ?_; rintro r hri a ⟨tn, bu, us, ba, as, tx, rfl, h1, h2, h3, h4, h5⟩) | (refine and3 (hr.get' hv) ?_; rintro r hri ⟨a, tn, bu, us, ba, as, tx, rfl, h1, h2, h3, h4, h5⟩) | obtain ⟨r, hri, a, tn, bu, us, ba, as, tx, rfl, h1, h2, h3, h4, h5⟩ := (hr.get' hv))
    refine k_ ?_
    clear k_ X_
    have h1' := hg' _ _ h1
    have hir : i < rows.length := (List.getElem?_eq_some_iff.mp hri).1
    have hB := hb r (List.mem_of_getElem? hri)
    refine hide ?_
    intro X_ k_
    first | (first | (refine and4 (nameFacts hB.name) ?_; rintro ⟨n1, n1'⟩ n2 lc n3) | (refine and3 (nameFacts hB.name) ?_; rintro ⟨n1, n1'⟩ n2 ⟨lc, n3⟩) | obtain ⟨⟨n1, n1'⟩, n2, lc, n3⟩ := (nameFacts hB.name))
    refine k_ ?_
    clear k_ X_
    have t1 : (T.x, Sh.inst 350 T.d) ∈ treeLed T ++ (pre0 ++ (f, .lst fv) :: r0) := List.mem_append_left _ tree_t1
    have t2 : (T.d, Sh.att [("rows", .ref T.r)]) ∈ treeLed T ++ (pre0 ++ (f, .lst fv) :: r0) := List.mem_append_left _ tree_t2
    walk_at "ms"
    walk_at "mmeth"
    walk_at "ms"
    refine w_split (by decide +kernel) (by rw [sizeLine_eq]; omega) (by rw [sizeLine_eq]; omega) fun D l hl' => ?_
    obtain ⟨tl, hlast⟩ := last_of hl' n3
    walk_at "ms"
    refine w_itemLast (kn_mu (.head _)) hlast (by
      have e := congrArg List.length hl'
      rw [List.length_map] at e
      unfold strValues
      rw [List.length_map, e, sizeLine_eq]
      exact Nat.le_trans n1' (by decide)) ?_ sub_unop
    walk_at "ms"
    refine w_in (mu := treeLed T) (r := pre0 ++ (f, .lst fv) :: r0) [(D, .lst (strValues l))] ?_
    refine w_call _ (fun g' h1 h2 => addElement_ok G hA.le hT (by omega) hab hk (by omega) ⟨_, rfl⟩ ⟨_, rfl⟩ ⟨_, rfl⟩) ?_
    rintro _ _ h_2
    refine hide ?_
    intro X_ k_
    first | (first | (refine and5 h_2 ?_; clear h_2; rintro ⟨te, rfl⟩ T1 e1 rfl hT1) | (refine and4 h_2 ?_; clear h_2; rintro ⟨te, rfl⟩ T1 e1 ⟨rfl, hT1⟩) | (refine and3 h_2 ?_; clear h_2; rintro ⟨te, rfl⟩ T1 ⟨e1, rfl, hT1⟩) | obtain ⟨⟨te, rfl⟩, T1, e1, rfl, hT1⟩ := h_2)
    refine k_ ?_
    clear k_ X_
    rw [step_el hab] at hT1
    walk_at "ms"
    refine m_list_append (kn_mu (List.mem_append_right _ (.tail _ (List.mem_append_right pre0 (.head _))))) ?_
    walk_at "ms"
    refine w_append (vs := fv) (Up.appR (Up.tail (Up.appR Up.head pre0)) (treeLed T1)) (by have := hF.len; rw [sizeLine_eq]; omega) ?_
    refine Seq.next ?_
    obtain ⟨T0, hT0'⟩ : ∃ T0, T0 = addCh t ab t.length := ⟨_, rfl⟩
    have hl0 : T0.length = t.length := by rw [hT0', addCh_len]
    rw [← hT0'] at hT1
    obtain ⟨R1, hR1⟩ : ∃ R1 : Led, R1 = (D, .lst (strValues l)) :: (pre0 ++ (f, .lst (fv ++ [.int t.length te])) :: r0) := ⟨_, rfl⟩
    show W _ _ _ ⟨_, treeLed T1 ++ ((D, .lst (strValues l)) :: (pre0 ++ (f, .lst (fv ++ [.int t.length te])) :: r0))⟩
    rw [← hR1]
    have h2' := hg' _ _ h2
    have h4' := hg' _ _ h4
    walk_at "ms"
    refine w_forSrc (src_lst hh h2' fun _ => dr_tupL) (fun j st => ∃ T2 : TA, T2.x = T.x ∧ st.mu = treeLed T2 ++ R1 ∧ TreeIs T2 (T0 ++ elBlock ab T0.length r.name lc (r.uris.take j) [] []) ∧ st.m "tree" = some (.ref T.x) ∧ st.m "found" = some (.ref f) ∧ st.m "above" = some (.int t.length te) ∧
      st.m "attributes" = some (.ref ba) ∧ st.m "text" = some (.str r.text tx)) ?h02 ?turn2 ?fin2
    case h02 =>
      exact ⟨T1, e1, rfl, hT1, by walk_at "ml0", by walk_at "ml0", by walk_at "ml0", by walk_at "ml0", by walk_at "ml0"⟩
    case turn2 =>
      rintro j v ⟨m, mu⟩ g'' hj hv h_6 hg''
      refine hide ?_
      intro X_ k_
      first | (refine ex8 h_6 ?_; clear h_6; rintro T2 e2 hmu hT2 m1 m2 m3 m4 m5) | (refine ex7 h_6 ?_; clear h_6; rintro T2 e2 hmu hT2 m1 m2 m3 hr_; first | obtain ⟨m4, m5⟩ := hr_) | (refine ex6 h_6 ?_; clear h_6; rintro T2 e2 hmu hT2 m1 m2 hr_; first | (refine and3 hr_ ?_; clear hr_; rintro m3 m4 m5) | obtain ⟨m3, m4, m5⟩ := hr_) | (refine ex5 h_6 ?_; clear h_6; rintro T2 e2 hmu hT2 m1 hr_; first | (refine and4 hr_ ?_; clear hr_; rintro m2 m3 m4 m5) | (refine and3 hr_ ?_; clear hr_; rintro m2 m3 ⟨m4, m5⟩) | obtain ⟨m2, m3, m4, m5⟩ := hr_) | (refine ex4 h_6 ?_; clear h_6; rintro T2 e2 hmu hT2 hr_; first | (refine and5 hr_ ?_; clear hr_; rintro m1 m2 m3 m4 m5) | (refine and4 hr_ ?_; clear hr_; rintro m1 m2 m3 ⟨m4, m5⟩) | (refine and3 hr_ ?_; clear hr_; rintro m1 m2 ⟨m3, m4, m5⟩) | obtain ⟨m1, m2, m3, m4, m5⟩ := hr_) | (refine ex3 h_6 ?_; clear h_6; rintro T2 e2 hmu hr_; first | (refine and6 hr_ ?_; clear hr_; rintro hT2 m1 m2 m3 m4 m5) | (refine and5 hr_ ?_; clear hr_; rintro hT2 m1 m2 m3 ⟨m4, m5⟩) | (refine and4 hr_ ?_; clear hr_; rintro hT2 m1 m2 ⟨m3, m4, m5⟩) | (refine and3 hr_ ?_; clear hr_; rintro hT2 m1 ⟨m2, m3, m4, m5⟩) | obtain ⟨hT2, m1, m2, m3, m4, m5⟩ := hr_) | (refine ex2 h_6 ?_; clear h_6; rintro T2 e2 hr_; first | (refine and7 hr_ ?_; clear hr_; rintro hmu hT2 m1 m2 m3 m4 m5) | (refine and6 hr_ ?_; clear hr_; rintro hmu hT2 m1 m2 m3 ⟨m4, m5⟩) | (refine and5 hr_ ?_; clear hr_; rintro hmu hT2 m1 m2 ⟨m3, m4, m5⟩) | (refine and4 hr_ ?_; clear hr_; rintro hmu hT2 m1 ⟨m2, m3, m4, m5⟩) | (refine and3 hr_ ?_; clear hr_; rintro hmu hT2 ⟨m1, m2, m3, m4, m5⟩) | obtain ⟨hmu, hT2, m1, m2, m3, m4, m5⟩ := hr_) | (refine ex1 h_6 ?_; clear h_6; rintro T2 hr_; first | (refine and8 hr_ ?_; clear hr_; rintro e2 hmu hT2 m1 m2 m3 m4 m5) | (refine and7 hr_ ?_; clear hr_; rintro e2 hmu hT2 m1 m2 m3 ⟨m4, m5⟩) | (refine and6 hr_ ?_; clear hr_; rintro e2 hmu hT2 m1 m2 ⟨m3, m4, m5⟩) | (refine and5 hr_ ?_; clear hr_; rintro e2 hmu hT2 m1 ⟨m2, m3, m4, m5⟩) | (refine and4 hr_ ?_; clear hr_; rintro e2 hmu hT2 ⟨m1, m2, m3, m4, m5⟩) | (refine and3 hr_ ?_; clear hr_; rintro e2 hmu ⟨hT2, m1, m2, m3, m4, m5⟩) | obtain ⟨e2, hmu, hT2, m1, m2, m3, m4, m5⟩ := hr_) | (first | (refine and9 h_6 ?_; clear h_6; rintro T2 e2 hmu hT2 m1 m2 m3 m4 m5) | (refine and8 h_6 ?_; clear h_6; rintro T2 e2 hmu hT2 m1 m2 m3 ⟨m4, m5⟩) | (refine and7 h_6 ?_; clear h_6; rintro T2 e2 hmu hT2 m1 m2 ⟨m3, m4, m5⟩) | (refine and6 h_6 ?_; clear h_6; rintro T2 e2 hmu hT2 m1 ⟨m2, m3, m4, m5⟩) | (refine and5 h_6 ?_; clear h_6; rintro T2 e2 hmu hT2 ⟨m1, m2, m3, m4, m5⟩) | (refine and4 h_6 ?_; clear h_6; rintro T2 e2 hmu ⟨hT2, m1, m2, m3, m4, m5⟩) | (refine and3 h_6 ?_; clear h_6; rintro T2 e2 ⟨hmu, hT2, m1, m2, m3, m4, m5⟩) | obtain ⟨T2, e2, hmu, hT2, m1, m2, m3, m4, m5⟩ := h_6)
      refine k_ ?_
      clear k_ X_
      dsimp only at hmu m1 m2 m3 m4 m5
      subst hmu
      rw [← hl0] at m3
      rw [← e2] at m1
      refine hide ?_
      intro X_ k_
      first | (refine ex5 (h3.get' hv) ?_; rintro p hpj q tp tq hr_; first | obtain ⟨rfl, hq⟩ := hr_) | (refine ex4 (h3.get' hv) ?_; rintro p hpj q tp hr_; first | (refine and3 hr_ ?_; clear hr_; rintro tq rfl hq) | obtain ⟨tq, rfl, hq⟩ := hr_) | (refine ex3 (h3.get' hv) ?_; rintro p hpj q hr_; first | (refine and4 hr_ ?_; clear hr_; rintro tp tq rfl hq) | (refine and3 hr_ ?_; clear hr_; rintro tp tq ⟨rfl, hq⟩) | obtain ⟨tp, tq, rfl, hq⟩ := hr_) | (refine ex2 (h3.get' hv) ?_; rintro p hpj hr_; first | (refine and5 hr_ ?_; clear hr_; rintro q tp tq rfl hq) | (refine and4 hr_ ?_; clear hr_; rintro q tp tq ⟨rfl, hq⟩) | (refine and3 hr_ ?_; clear hr_; rintro q tp ⟨tq, rfl, hq⟩) | obtain ⟨q, tp, tq, rfl, hq⟩ := hr_) | (refine ex1 (h3.get' hv) ?_; rintro p hr_; first | (refine and6 hr_ ?_; clear hr_; rintro hpj q tp tq rfl hq) | (refine and5 hr_ ?_; clear hr_; rintro hpj q tp tq ⟨rfl, hq⟩) | (refine and4 hr_ ?_; clear hr_; rintro hpj q tp ⟨tq, rfl, hq⟩) | (refine and3 hr_ ?_; clear hr_; rintro hpj q ⟨tp, tq, rfl, hq⟩) | obtain ⟨hpj, q, tp, tq, rfl, hq⟩ := hr_) | (first | (refine and7 (h3.get' hv) ?_; rintro p hpj q tp tq rfl hq) | (refine and6 (h3.get' hv) ?_; rintro p hpj q tp tq ⟨rfl, hq⟩) | (refine and5 (h3.get' hv) ?_; rintro p hpj q tp ⟨tq, rfl, hq⟩) | (refine and4 (h3.get' hv) ?_; rintro p hpj q ⟨tp, tq, rfl, hq⟩) | (refine and3 (h3.get' hv) ?_; rintro p hpj ⟨q, tp, tq, rfl, hq⟩) | obtain ⟨p, hpj, q, tp, tq, rfl, hq⟩ := (h3.get' hv))
      refine k_ ?_
      clear k_ X_
      have hq' := hg'' _ _ (hg' _ _ hq)
      have k1 : (T2.x, Sh.inst 350 T2.d) ∈ treeLed T2 ++ R1 := List.mem_append_left _ tree_t1
      have k2 : (T2.d, Sh.att [("rows", .ref T2.r)]) ∈ treeLed T2 ++ R1 := List.mem_append_left _ tree_t2
      have hlu := hB.ulen
      have hla := hB.alen
      have hlj : (r.uris.take j).length ≤ 10 := Nat.le_trans (List.length_take_le' _ _) hlu
      have hlen2 : (T0 ++ elBlock ab T0.length r.name lc (r.uris.take j) [] []).length ≤ 1000 := by rw [List.length_append, elBlock_len]; simp; simp at hlj; omega
      walk_at "ms"
      walk_at "mmeth"
      walk_at "ms"
      refine w_call _ (fun g' h1 h2 => addNamespace_ok (ee := T0.length) (nr := elRow ab r.name lc (ix (T0.length + 1) (r.uris.take j).length) (ix (T0.length + 1 + (r.uris.take j).length) 0) []) G hA.le hT2 hlen2 (by
        have := el_at (T0 := T0) (ab := ab) (nm := r.name) (lc := lc) (us := r.uris.take j) (as := []) (ch := []) (r := [])
        rw [List.append_nil] at this; exact this) rfl (by show (ix _ _).length ≤ 1000; unfold ix; rw [List.length_map, List.length_range]; omega) ⟨_, rfl⟩ ⟨_, rfl⟩ ?_) ?_
      · intro k hk
        obtain ⟨a, ha, rfl⟩ := mem_ix hk
        have hpa := List.getElem?_eq_getElem ha
        refine ⟨nsRow T0.length (r.uris.take j)[a], ?_, ?_⟩
        · have := ns_at (T0 := T0) (ab := ab) (nm := r.name) (lc := lc) (as := []) (ch := []) (r := []) hpa
          rw [List.append_nil] at this; exact this
        · show ((r.uris.take j)[a]).1 ≠ p.1
          have haj : a < j := by rw [List.length_take] at ha; omega
          have hpa' : r.uris[a]? = some (r.uris.take j)[a] := by rw [← hpa, List.getElem?_take, if_pos haj]
          exact nodup_ne hB.upre haj (by rw [List.getElem?_map, hpa']; rfl) (by rw [List.getElem?_map, hpj]; rfl)
      · rintro _ _ h_2
        refine hide ?_
        intro X_ k_
        first | (first | (refine and5 h_2 ?_; clear h_2; rintro ⟨tn', rfl⟩ T3 e3 rfl hT3) | (refine and4 h_2 ?_; clear h_2; rintro ⟨tn', rfl⟩ T3 e3 ⟨rfl, hT3⟩) | (refine and3 h_2 ?_; clear h_2; rintro ⟨tn', rfl⟩ T3 ⟨e3, rfl, hT3⟩) | obtain ⟨⟨tn', rfl⟩, T3, e3, rfl, hT3⟩ := h_2)
        refine k_ ?_
        clear k_ X_
        walk_at "ms"
        refine ⟨T3, e3.trans e2, rfl, ?_, ?_, ?_, ?_, ?_, ?_⟩
        · rw [List.take_add_one, hpj]
          show TreeIs T3 (T0 ++ elBlock ab T0.length r.name lc (r.uris.take j ++ [p]) [] [])
          rw [← step_ns]
          exact hT3
        · rw [← e2]; walk_at "ml0"
        · walk_at "ml0"
        · rw [← hl0]; walk_at "ml0"
        · walk_at "ml0"
        · walk_at "ml0"
    case fin2 =>
      rintro ⟨m, mu⟩ h_1
      refine hide ?_
      intro X_ k_
      first | (refine ex8 h_1 ?_; clear h_1; rintro T2 e2 hmu hT2 m1 m2 m3 m4 m5) | (refine ex7 h_1 ?_; clear h_1; rintro T2 e2 hmu hT2 m1 m2 m3 hr_; first | obtain ⟨m4, m5⟩ := hr_) | (refine ex6 h_1 ?_; clear h_1; rintro T2 e2 hmu hT2 m1 m2 hr_; first | (refine and3 hr_ ?_; clear hr_; rintro m3 m4 m5) | obtain ⟨m3, m4, m5⟩ := hr_) | (refine ex5 h_1 ?_; clear h_1; rintro T2 e2 hmu hT2 m1 hr_; first | (refine and4 hr_ ?_; clear hr_; rintro m2 m3 m4 m5) | (refine and3 hr_ ?_; clear hr_; rintro m2 m3 ⟨m4, m5⟩) | obtain ⟨m2, m3, m4, m5⟩ := hr_) | (refine ex4 h_1 ?_; clear h_1; rintro T2 e2 hmu hT2 hr_; first | (refine and5 hr_ ?_; clear hr_; rintro m1 m2 m3 m4 m5) | (refine and4 hr_ ?_; clear hr_; rintro m1 m2 m3 ⟨m4, m5⟩) | (refine and3 hr_ ?_; clear hr_; rintro m1 m2 ⟨m3, m4, m5⟩) | obtain ⟨m1, m2, m3, m4, m5⟩ := hr_) | (refine ex3 h_1 ?_; clear h_1; rintro T2 e2 hmu hr_; first | (refine and6 hr_ ?_; clear hr_; rintro hT2 m1 m2 m3 m4 m5) | (refine and5 hr_ ?_; clear hr_; rintro hT2 m1 m2 m3 ⟨m4, m5⟩) | (refine and4 hr_ ?_; clear hr_; rintro hT2 m1 m2 ⟨m3, m4, m5⟩) | (refine and3 hr_ ?_; clear hr_; rintro hT2 m1 ⟨m2, m3, m4, m5⟩) | obtain ⟨hT2, m1, m2, m3, m4, m5⟩ := hr_) | (refine ex2 h_1 ?_; clear h_1; rintro T2 e2 hr_; first | (refine and7 hr_ ?_; clear hr_; rintro hmu hT2 m1 m2 m3 m4 m5) | (refine and6 hr_ ?_; clear hr_; rintro hmu hT2 m1 m2 m3 ⟨m4, m5⟩) | (refine and5 hr_ ?_; clear hr_; rintro hmu hT2 m1 m2 ⟨m3, m4, m5⟩) | (refine and4 hr_ ?_; clear hr_; rintro hmu hT2 m1 ⟨m2, m3, m4, m5⟩) | (refine and3 hr_ ?_; clear hr_; rintro hmu hT2 ⟨m1, m2, m3, m4, m5⟩) | obtain ⟨hmu, hT2, m1, m2, m3, m4, m5⟩ := hr_) | (refine ex1 h_1 ?_; clear h_1; rintro T2 hr_; first | (refine and8 hr_ ?_; clear hr_; rintro e2 hmu hT2 m1 m2 m3 m4 m5) | (refine and7 hr_ ?_; clear hr_; rintro e2 hmu hT2 m1 m2 m3 ⟨m4, m5⟩) | (refine and6 hr_ ?_; clear hr_; rintro e2 hmu hT2 m1 m2 ⟨m3, m4, m5⟩) | (refine and5 hr_ ?_; clear hr_; rintro e2 hmu hT2 m1 ⟨m2, m3, m4, m5⟩) | (refine and4 hr_ ?_; clear hr_; rintro e2 hmu hT2 ⟨m1, m2, m3, m4, m5⟩) | (refine and3 hr_ ?_; clear hr_; rintro e2 hmu ⟨hT2, m1, m2, m3, m4, m5⟩) | obtain ⟨e2, hmu, hT2, m1, m2, m3, m4, m5⟩ := hr_) | (first | (refine and9 h_1 ?_; clear h_1; rintro T2 e2 hmu hT2 m1 m2 m3 m4 m5) | (refine and8 h_1 ?_; clear h_1; rintro T2 e2 hmu hT2 m1 m2 m3 ⟨m4, m5⟩) | (refine and7 h_1 ?_; clear h_1; rintro T2 e2 hmu hT2 m1 m2 ⟨m3, m4, m5⟩) | (refine and6 h_1 ?_; clear h_1; rintro T2 e2 hmu hT2 m1 ⟨m2, m3, m4, m5⟩) | (refine and5 h_1 ?_; clear h_1; rintro T2 e2 hmu hT2 ⟨m1, m2, m3, m4, m5⟩) | (refine and4 h_1 ?_; clear h_1; rintro T2 e2 hmu ⟨hT2, m1, m2, m3, m4, m5⟩) | (refine and3 h_1 ?_; clear h_1; rintro T2 e2 ⟨hmu, hT2, m1, m2, m3, m4, m5⟩) | obtain ⟨T2, e2, hmu, hT2, m1, m2, m3, m4, m5⟩ := h_1)
      refine k_ ?_
      clear k_ X_
      dsimp only at hmu m1 m2 m3 m4 m5
      subst hmu
      rw [← h3.len, List.take_length] at hT2
      have hlu := hB.ulen
      have hla := hB.alen
      walk_at "ms"
      refine w_forSrc (src_lst hh h4' fun _ => dr_tupL) (fun j st => ∃ (T2 : TA) (pre : Led), T2.x = T.x ∧ st.mu = treeLed T2 ++ (pre ++ R1) ∧ TreeIs T2 (T0 ++ elBlock ab T0.length r.name lc r.uris (r.attrs.take j) []) ∧ st.m "tree" = some (.ref T.x) ∧ st.m "found" = some (.ref f) ∧ st.m "above" = some (.int t.length te) ∧
        st.m "text" = some (.str r.text tx)) ?h03 ?turn3 ?fin3
      case h03 =>
        exact ⟨T2, [], e2, rfl, hT2, by walk_at "ml0", by walk_at "ml0", by walk_at "ml0", by walk_at "ml0"⟩
      case turn3 =>
        clear m1 m2 m3 m4 m5 hT2 e2
        rintro j v ⟨m, mu⟩ g'' hj hv h_6 hg''
        refine hide ?_
        intro X_ k_
        first | (refine ex8 h_6 ?_; clear h_6; rintro T2 pre e2 hmu hT2 m1 m2 m3 m5) | (refine ex7 h_6 ?_; clear h_6; rintro T2 pre e2 hmu hT2 m1 m2 hr_; first | obtain ⟨m3, m5⟩ := hr_) | (refine ex6 h_6 ?_; clear h_6; rintro T2 pre e2 hmu hT2 m1 hr_; first | (refine and3 hr_ ?_; clear hr_; rintro m2 m3 m5) | obtain ⟨m2, m3, m5⟩ := hr_) | (refine ex5 h_6 ?_; clear h_6; rintro T2 pre e2 hmu hT2 hr_; first | (refine and4 hr_ ?_; clear hr_; rintro m1 m2 m3 m5) | (refine and3 hr_ ?_; clear hr_; rintro m1 m2 ⟨m3, m5⟩) | obtain ⟨m1, m2, m3, m5⟩ := hr_) | (refine ex4 h_6 ?_; clear h_6; rintro T2 pre e2 hmu hr_; first | (refine and5 hr_ ?_; clear hr_; rintro hT2 m1 m2 m3 m5) | (refine and4 hr_ ?_; clear hr_; rintro hT2 m1 m2 ⟨m3, m5⟩) | (refine and3 hr_ ?_; clear hr_; rintro hT2 m1 ⟨m2, m3, m5⟩) | obtain ⟨hT2, m1, m2, m3, m5⟩ := hr_) | (refine ex3 h_6 ?_; clear h_6; rintro T2 pre e2 hr_; first | (refine and6 hr_ ?_; clear hr_; rintro hmu hT2 m1 m2 m3 m5) | (refine and5 hr_ ?_; clear hr_; rintro hmu hT2 m1 m2 ⟨m3, m5⟩) | (refine and4 hr_ ?_; clear hr_; rintro hmu hT2 m1 ⟨m2, m3, m5⟩) | (refine and3 hr_ ?_; clear hr_; rintro hmu hT2 ⟨m1, m2, m3, m5⟩) | obtain ⟨hmu, hT2, m1, m2, m3, m5⟩ := hr_) | (refine ex2 h_6 ?_; clear h_6; rintro T2 pre hr_; first | (refine and7 hr_ ?_; clear hr_; rintro e2 hmu hT2 m1 m2 m3 m5) | (refine and6 hr_ ?_; clear hr_; rintro e2 hmu hT2 m1 m2 ⟨m3, m5⟩) | (refine and5 hr_ ?_; clear hr_; rintro e2 hmu hT2 m1 ⟨m2, m3, m5⟩) | (refine and4 hr_ ?_; clear hr_; rintro e2 hmu hT2 ⟨m1, m2, m3, m5⟩) | (refine and3 hr_ ?_; clear hr_; rintro e2 hmu ⟨hT2, m1, m2, m3, m5⟩) | obtain ⟨e2, hmu, hT2, m1, m2, m3, m5⟩ := hr_) | (refine ex1 h_6 ?_; clear h_6; rintro T2 hr_; first | (refine and8 hr_ ?_; clear hr_; rintro pre e2 hmu hT2 m1 m2 m3 m5) | (refine and7 hr_ ?_; clear hr_; rintro pre e2 hmu hT2 m1 m2 ⟨m3, m5⟩) | (refine and6 hr_ ?_; clear hr_; rintro pre e2 hmu hT2 m1 ⟨m2, m3, m5⟩) | (refine and5 hr_ ?_; clear hr_; rintro pre e2 hmu hT2 ⟨m1, m2, m3, m5⟩) | (refine and4 hr_ ?_; clear hr_; rintro pre e2 hmu ⟨hT2, m1, m2, m3, m5⟩) | (refine and3 hr_ ?_; clear hr_; rintro pre e2 ⟨hmu, hT2, m1, m2, m3, m5⟩) | obtain ⟨pre, e2, hmu, hT2, m1, m2, m3, m5⟩ := hr_) | (first | (refine and9 h_6 ?_; clear h_6; rintro T2 pre e2 hmu hT2 m1 m2 m3 m5) | (refine and8 h_6 ?_; clear h_6; rintro T2 pre e2 hmu hT2 m1 m2 ⟨m3, m5⟩) | (refine and7 h_6 ?_; clear h_6; rintro T2 pre e2 hmu hT2 m1 ⟨m2, m3, m5⟩) | (refine and6 h_6 ?_; clear h_6; rintro T2 pre e2 hmu hT2 ⟨m1, m2, m3, m5⟩) | (refine and5 h_6 ?_; clear h_6; rintro T2 pre e2 hmu ⟨hT2, m1, m2, m3, m5⟩) | (refine and4 h_6 ?_; clear h_6; rintro T2 pre e2 ⟨hmu, hT2, m1, m2, m3, m5⟩) | (refine and3 h_6 ?_; clear h_6; rintro T2 pre ⟨e2, hmu, hT2, m1, m2, m3, m5⟩) | obtain ⟨T2, pre, e2, hmu, hT2, m1, m2, m3, m5⟩ := h_6)
        refine k_ ?_
        clear k_ X_
        dsimp only at hmu m1 m2 m3 m5
        subst hmu
        rw [← hl0] at m3
        rw [← e2] at m1
        refine hide ?_
        intro X_ k_
        first | (refine ex6 (h5.get' hv) ?_; rintro p hpj q tp tq tv hr_; first | obtain ⟨rfl, hq⟩ := hr_) | (refine ex5 (h5.get' hv) ?_; rintro p hpj q tp tq hr_; first | (refine and3 hr_ ?_; clear hr_; rintro tv rfl hq) | obtain ⟨tv, rfl, hq⟩ := hr_) | (refine ex4 (h5.get' hv) ?_; rintro p hpj q tp hr_; first | (refine and4 hr_ ?_; clear hr_; rintro tq tv rfl hq) | (refine and3 hr_ ?_; clear hr_; rintro tq tv ⟨rfl, hq⟩) | obtain ⟨tq, tv, rfl, hq⟩ := hr_) | (refine ex3 (h5.get' hv) ?_; rintro p hpj q hr_; first | (refine and5 hr_ ?_; clear hr_; rintro tp tq tv rfl hq) | (refine and4 hr_ ?_; clear hr_; rintro tp tq tv ⟨rfl, hq⟩) | (refine and3 hr_ ?_; clear hr_; rintro tp tq ⟨tv, rfl, hq⟩) | obtain ⟨tp, tq, tv, rfl, hq⟩ := hr_) | (refine ex2 (h5.get' hv) ?_; rintro p hpj hr_; first | (refine and6 hr_ ?_; clear hr_; rintro q tp tq tv rfl hq) | (refine and5 hr_ ?_; clear hr_; rintro q tp tq tv ⟨rfl, hq⟩) | (refine and4 hr_ ?_; clear hr_; rintro q tp tq ⟨tv, rfl, hq⟩) | (refine and3 hr_ ?_; clear hr_; rintro q tp ⟨tq, tv, rfl, hq⟩) | obtain ⟨q, tp, tq, tv, rfl, hq⟩ := hr_) | (refine ex1 (h5.get' hv) ?_; rintro p hr_; first | (refine and7 hr_ ?_; clear hr_; rintro hpj q tp tq tv rfl hq) | (refine and6 hr_ ?_; clear hr_; rintro hpj q tp tq tv ⟨rfl, hq⟩) | (refine and5 hr_ ?_; clear hr_; rintro hpj q tp tq ⟨tv, rfl, hq⟩) | (refine and4 hr_ ?_; clear hr_; rintro hpj q tp ⟨tq, tv, rfl, hq⟩) | (refine and3 hr_ ?_; clear hr_; rintro hpj q ⟨tp, tq, tv, rfl, hq⟩) | obtain ⟨hpj, q, tp, tq, tv, rfl, hq⟩ := hr_) | (first | (refine and8 (h5.get' hv) ?_; rintro p hpj q tp tq tv rfl hq) | (refine and7 (h5.get' hv) ?_; rintro p hpj q tp tq tv ⟨rfl, hq⟩) | (refine and6 (h5.get' hv) ?_; rintro p hpj q tp tq ⟨tv, rfl, hq⟩) | (refine and5 (h5.get' hv) ?_; rintro p hpj q tp ⟨tq, tv, rfl, hq⟩) | (refine and4 (h5.get' hv) ?_; rintro p hpj q ⟨tp, tq, tv, rfl, hq⟩) | (refine and3 (h5.get' hv) ?_; rintro p hpj ⟨q, tp, tq, tv, rfl, hq⟩) | obtain ⟨p, hpj, q, tp, tq, tv, rfl, hq⟩ := (h5.get' hv))
        refine k_ ?_
        clear k_ X_
        have hq' := hg'' _ _ (hg' _ _ hq)
        have k1 : (T2.x, Sh.inst 350 T2.d) ∈ treeLed T2 ++ (pre ++ R1) := List.mem_append_left _ tree_t1
        have k2 : (T2.d, Sh.att [("rows", .ref T2.r)]) ∈ treeLed T2 ++ (pre ++ R1) := List.mem_append_left _ tree_t2
        have hlj : (r.attrs.take j).length ≤ 10 := Nat.le_trans (List.length_take_le' _ _) hla
        have hlen2 : (T0 ++ elBlock ab T0.length r.name lc r.uris (r.attrs.take j) []).length ≤ 1000 := by rw [List.length_append, elBlock_len]; omega
        obtain ⟨hp1, hp2⟩ := hB.apre p (List.mem_of_getElem? hpj)
        have hp0 : p.1.length ≤ 1 := by
          have h' : p.1 = "" ∨ p.1 = "p" ∨ p.1 = "q" ∨ p.1 = "r" := by simpa [prefL] using hp1
          rcases h' with e | e | e | e <;> rw [e] <;> decide +kernel
        have hcl : (Str.ofString ":").length = 1 := by decide +kernel
        walk_at "ms"
        walk_at "mmeth"
        walk_at "ms"
        refine Br.of (fun hp => ?_) (fun hp => ?_)
        rotate_left
        walk_at "ms"
        rotate_left
        walk_at "ms"
        refine w_addStr (fun _ => ?_) (by omega)
        walk_at "ms"
        refine w_addStr (fun _ => ?_) (by rw [strLen_add]; omega)
        walk_at "ms"
        all_goals
          refine w_call (mu := []) _ (fun g' _ _ => uris_ok G hA.le) ?_
          rintro _ _ h_2
          refine hide ?_
          intro X_ k_
          first | (refine ex5 h_2 ?_; clear h_2; rintro ud s1 s2 s3 s4 hr_; first | obtain ⟨rfl, rfl⟩ := hr_) | (refine ex4 h_2 ?_; clear h_2; rintro ud s1 s2 s3 hr_; first | (refine and3 hr_ ?_; clear hr_; rintro s4 rfl rfl) | obtain ⟨s4, rfl, rfl⟩ := hr_) | (refine ex3 h_2 ?_; clear h_2; rintro ud s1 s2 hr_; first | (refine and4 hr_ ?_; clear hr_; rintro s3 s4 rfl rfl) | (refine and3 hr_ ?_; clear hr_; rintro s3 s4 ⟨rfl, rfl⟩) | obtain ⟨s3, s4, rfl, rfl⟩ := hr_) | (refine ex2 h_2 ?_; clear h_2; rintro ud s1 hr_; first | (refine and5 hr_ ?_; clear hr_; rintro s2 s3 s4 rfl rfl) | (refine and4 hr_ ?_; clear hr_; rintro s2 s3 s4 ⟨rfl, rfl⟩) | (refine and3 hr_ ?_; clear hr_; rintro s2 s3 ⟨s4, rfl, rfl⟩) | obtain ⟨s2, s3, s4, rfl, rfl⟩ := hr_) | (refine ex1 h_2 ?_; clear h_2; rintro ud hr_; first | (refine and6 hr_ ?_; clear hr_; rintro s1 s2 s3 s4 rfl rfl) | (refine and5 hr_ ?_; clear hr_; rintro s1 s2 s3 s4 ⟨rfl, rfl⟩) | (refine and4 hr_ ?_; clear hr_; rintro s1 s2 s3 ⟨s4, rfl, rfl⟩) | (refine and3 hr_ ?_; clear hr_; rintro s1 s2 ⟨s3, s4, rfl, rfl⟩) | obtain ⟨s1, s2, s3, s4, rfl, rfl⟩ := hr_) | (first | (refine and7 h_2 ?_; clear h_2; rintro ud s1 s2 s3 s4 rfl rfl) | (refine and6 h_2 ?_; clear h_2; rintro ud s1 s2 s3 s4 ⟨rfl, rfl⟩) | (refine and5 h_2 ?_; clear h_2; rintro ud s1 s2 s3 ⟨s4, rfl, rfl⟩) | (refine and4 h_2 ?_; clear h_2; rintro ud s1 s2 ⟨s3, s4, rfl, rfl⟩) | (refine and3 h_2 ?_; clear h_2; rintro ud s1 ⟨s2, s3, s4, rfl, rfl⟩) | obtain ⟨ud, s1, s2, s3, s4, rfl, rfl⟩ := h_2)
          refine k_ ?_
          clear k_ X_
          walk_at "ms"
          obtain ⟨tu, hu⟩ := uriAt hp1 s1 s2 s3 s4
          refine w_itemDct (kn_mu (.head _)) hu ?_ sub_name
          walk_at "ms"
          refine w_in (mu := treeLed T2) (r := pre ++ R1) [(ud, .dct (uriKvs s1 s2 s3 s4))] ?_
          refine w_call _ (fun g' h1 h2 => setAttribute_ok (ee := T0.length) (nr := elRow ab r.name lc (ix (T0.length + 1) r.uris.length) (ix (T0.length + 1 + r.uris.length) (r.attrs.take j).length) []) G hA.le hT2 hlen2 (by
            have := el_at (T0 := T0) (ab := ab) (nm := r.name) (lc := lc) (us := r.uris) (as := r.attrs.take j) (ch := []) (r := [])
            rw [List.append_nil] at this; exact this) rfl (by show (ix _ _).length ≤ 1000; unfold ix; rw [List.length_map, List.length_range]; omega) ⟨_, rfl⟩ ⟨_, rfl⟩ ⟨_, rfl⟩ ⟨_, rfl⟩ ?_) ?_
          · intro k hk
            obtain ⟨a, ha, rfl⟩ := mem_ix hk
            have hpa := List.getElem?_eq_getElem ha
            refine ⟨atRow T0.length (r.attrs.take j)[a], ?_, ?_⟩
            · have := at_at (T0 := T0) (ab := ab) (nm := r.name) (lc := lc) (us := r.uris) (ch := []) (r := []) hpa
              rw [List.append_nil] at this; exact this
            · have haj : a < j := by rw [List.length_take] at ha; omega
              have hpa' : r.attrs[a]? = some (r.attrs.take j)[a] := by rw [← hpa, List.getElem?_take, if_pos haj]
              have hne := nodup_ne hB.ats haj (x := (uriOf (r.attrs.take j)[a].1, (r.attrs.take j)[a].2.1)) (y := (uriOf p.1, p.2.1)) (by rw [List.getElem?_map, hpa']; rfl) (by rw [List.getElem?_map, hpj]; rfl)
              exact fun e => hne (Prod.ext e.1 e.2)
          · rintro _ _ h_2
            refine hide ?_
            intro X_ k_
            first | (first | (refine and5 h_2 ?_; clear h_2; rintro ⟨tn', rfl⟩ T3 e3 rfl hT3) | (refine and4 h_2 ?_; clear h_2; rintro ⟨tn', rfl⟩ T3 e3 ⟨rfl, hT3⟩) | (refine and3 h_2 ?_; clear h_2; rintro ⟨tn', rfl⟩ T3 ⟨e3, rfl, hT3⟩) | obtain ⟨⟨tn', rfl⟩, T3, e3, rfl, hT3⟩ := h_2)
            refine k_ ?_
            clear k_ X_
            walk_at "ms"
            refine ⟨T3, (ud, .dct (uriKvs s1 s2 s3 s4)) :: pre, e3.trans e2, rfl, ?_, ?_, ?_, ?_, ?_⟩
            · rw [List.take_add_one, hpj]
              show TreeIs T3 (T0 ++ elBlock ab T0.length r.name lc r.uris (r.attrs.take j ++ [p]) [])
              rw [← step_at]
              unfold atRow qn
              first
                | (rw [if_pos (by simpa using hp)]; exact hT3)
                | (rw [if_neg (by simpa using hp)]; exact hT3)
            · rw [← e2]; walk_at "ml0"
            · walk_at "ml0"
            · rw [← hl0]; walk_at "ml0"
            · walk_at "ml0"
      case fin3 =>
        clear m1 m2 m3 m4 m5 hT2 e2
        rintro ⟨m, mu⟩ h_1
        refine hide ?_
        intro X_ k_
        first | (refine ex8 h_1 ?_; clear h_1; rintro T2 pre e2 hmu hT2 m1 m2 m3 m5) | (refine ex7 h_1 ?_; clear h_1; rintro T2 pre e2 hmu hT2 m1 m2 hr_; first | obtain ⟨m3, m5⟩ := hr_) | (refine ex6 h_1 ?_; clear h_1; rintro T2 pre e2 hmu hT2 m1 hr_; first | (refine and3 hr_ ?_; clear hr_; rintro m2 m3 m5) | obtain ⟨m2, m3, m5⟩ := hr_) | (refine ex5 h_1 ?_; clear h_1; rintro T2 pre e2 hmu hT2 hr_; first | (refine and4 hr_ ?_; clear hr_; rintro m1 m2 m3 m5) | (refine and3 hr_ ?_; clear hr_; rintro m1 m2 ⟨m3, m5⟩) | obtain ⟨m1, m2, m3, m5⟩ := hr_) | (refine ex4 h_1 ?_; clear h_1; rintro T2 pre e2 hmu hr_; first | (refine and5 hr_ ?_; clear hr_; rintro hT2 m1 m2 m3 m5) | (refine and4 hr_ ?_; clear hr_; rintro hT2 m1 m2 ⟨m3, m5⟩) | (refine and3 hr_ ?_; clear hr_; rintro hT2 m1 ⟨m2, m3, m5⟩) | obtain ⟨hT2, m1, m2, m3, m5⟩ := hr_) | (refine ex3 h_1 ?_; clear h_1; rintro T2 pre e2 hr_; first | (refine and6 hr_ ?_; clear hr_; rintro hmu hT2 m1 m2 m3 m5) | (refine and5 hr_ ?_; clear hr_; rintro hmu hT2 m1 m2 ⟨m3, m5⟩) | (refine and4 hr_ ?_; clear hr_; rintro hmu hT2 m1 ⟨m2, m3, m5⟩) | (refine and3 hr_ ?_; clear hr_; rintro hmu hT2 ⟨m1, m2, m3, m5⟩) | obtain ⟨hmu, hT2, m1, m2, m3, m5⟩ := hr_) | (refine ex2 h_1 ?_; clear h_1; rintro T2 pre hr_; first | (refine and7 hr_ ?_; clear hr_; rintro e2 hmu hT2 m1 m2 m3 m5) | (refine and6 hr_ ?_; clear hr_; rintro e2 hmu hT2 m1 m2 ⟨m3, m5⟩) | (refine and5 hr_ ?_; clear hr_; rintro e2 hmu hT2 m1 ⟨m2, m3, m5⟩) | (refine and4 hr_ ?_; clear hr_; rintro e2 hmu hT2 ⟨m1, m2, m3, m5⟩) | (refine and3 hr_ ?_; clear hr_; rintro e2 hmu ⟨hT2, m1, m2, m3, m5⟩) | obtain ⟨e2, hmu, hT2, m1, m2, m3, m5⟩ := hr_) | (refine ex1 h_1 ?_; clear h_1; rintro T2 hr_; first | (refine and8 hr_ ?_; clear hr_; rintro pre e2 hmu hT2 m1 m2 m3 m5) | (refine and7 hr_ ?_; clear hr_; rintro pre e2 hmu hT2 m1 m2 ⟨m3, m5⟩) | (refine and6 hr_ ?_; clear hr_; rintro pre e2 hmu hT2 m1 ⟨m2, m3, m5⟩) | (refine and5 hr_ ?_; clear hr_; rintro pre e2 hmu hT2 ⟨m1, m2, m3, m5⟩) | (refine and4 hr_ ?_; clear hr_; rintro pre e2 hmu ⟨hT2, m1, m2, m3, m5⟩) | (refine and3 hr_ ?_; clear hr_; rintro pre e2 ⟨hmu, hT2, m1, m2, m3, m5⟩) | obtain ⟨pre, e2, hmu, hT2, m1, m2, m3, m5⟩ := hr_) | (first | (refine and9 h_1 ?_; clear h_1; rintro T2 pre e2 hmu hT2 m1 m2 m3 m5) | (refine and8 h_1 ?_; clear h_1; rintro T2 pre e2 hmu hT2 m1 m2 ⟨m3, m5⟩) | (refine and7 h_1 ?_; clear h_1; rintro T2 pre e2 hmu hT2 m1 ⟨m2, m3, m5⟩) | (refine and6 h_1 ?_; clear h_1; rintro T2 pre e2 hmu hT2 ⟨m1, m2, m3, m5⟩) | (refine and5 h_1 ?_; clear h_1; rintro T2 pre e2 hmu ⟨hT2, m1, m2, m3, m5⟩) | (refine and4 h_1 ?_; clear h_1; rintro T2 pre e2 ⟨hmu, hT2, m1, m2, m3, m5⟩) | (refine and3 h_1 ?_; clear h_1; rintro T2 pre ⟨e2, hmu, hT2, m1, m2, m3, m5⟩) | obtain ⟨T2, pre, e2, hmu, hT2, m1, m2, m3, m5⟩ := h_1)
        refine k_ ?_
        clear k_ X_
        dsimp only at hmu m1 m2 m3 m5
        subst hmu
        rw [← h5.len, List.take_length] at hT2
        rw [← hl0] at m3
        rw [← e2] at m1
        have k1 : (T2.x, Sh.inst 350 T2.d) ∈ treeLed T2 ++ (pre ++ R1) := List.mem_append_left _ tree_t1
        have k2 : (T2.d, Sh.att [("rows", .ref T2.r)]) ∈ treeLed T2 ++ (pre ++ R1) := List.mem_append_left _ tree_t2
        have hlen2 : (T0 ++ elBlock ab T0.length r.name lc r.uris r.attrs []).length ≤ 1000 := by rw [List.length_append, elBlock_len]; omega
        have hst : ∀ rest t' fs', Steps (T0 ++ rowBlock ab T0.length lc r) T0.length rest t' fs' → Steps [rootNR []] 0 (rows.take (i + 1) ++ rest) t' ((fs ++ [T0.length]) ++ fs') := by
          intro rest t' fs' h
          rw [List.take_add_one, hri, List.append_assoc, List.append_assoc]
          refine hS _ _ _ ⟨lc, fs', by rw [hl0]; rfl, ?_⟩
          rw [← hT0', ← hl0]
          exact h
        have hFS := hF.snoc (y := .int t.length te) (x := T0.length) ⟨te, by rw [hl0]⟩
        have hlb : (T0 ++ rowBlock ab T0.length lc r).length ≤ 1 + 22 * (i + 1) := by
          have := rowBlock_len (ab := ab) (e := T0.length) (lc := lc) (r := r)
          rw [List.length_append]; omega
        have hfl : (fs ++ [T0.length]).length = i + 1 := by rw [List.length_append, hn]; rfl
        walk_at "ms"
        refine Br.of (fun hx => ?_) (fun hx => ?_)
        · have hx' : ¬ r.text = "" := by simpa using hx
          walk_at "ms"
          walk_at "mmeth"
          walk_at "ms"
          refine w_call _ (fun g' h1 h2 => addText_ok (pp := T0.length) (nr := elRow ab r.name lc (ix (T0.length + 1) r.uris.length) (ix (T0.length + 1 + r.uris.length) r.attrs.length) []) G hA.le hT2 hlen2 (by
            have := el_at (T0 := T0) (ab := ab) (nm := r.name) (lc := lc) (us := r.uris) (as := r.attrs) (ch := []) (r := [])
            rw [List.append_nil] at this; exact this) (.inr rfl) (by simp [elRow]) ⟨_, rfl⟩) ?_
          rintro _ _ h_2
          refine hide ?_
          intro X_ k_
          first | (first | (refine and5 h_2 ?_; clear h_2; rintro ⟨tn', rfl⟩ T3 e3 rfl hT3) | (refine and4 h_2 ?_; clear h_2; rintro ⟨tn', rfl⟩ T3 e3 ⟨rfl, hT3⟩) | (refine and3 h_2 ?_; clear h_2; rintro ⟨tn', rfl⟩ T3 ⟨e3, rfl, hT3⟩) | obtain ⟨⟨tn', rfl⟩, T3, e3, rfl, hT3⟩ := h_2)
          refine k_ ?_
          clear k_ X_
          walk_at "ms"
          have hbk : rowBlock ab T0.length lc r = elBlock ab T0.length r.name lc r.uris r.attrs [T0.length + 1 + r.uris.length + r.attrs.length] ++ [nrOf "text" "" "" "" r.text (some T0.length)] := if_neg hx'
          refine ⟨T3, T0 ++ rowBlock ab T0.length lc r, T0.length, te, fs ++ [T0.length], fv ++ [.int t.length te], pre ++ (D, .lst (strValues l)) :: pre0, r0, elRow ab r.name lc (ix (T0.length + 1) r.uris.length) (ix (T0.length + 1 + r.uris.length) r.attrs.length) [T0.length + 1 + r.uris.length + r.attrs.length], e3.trans e2, by rw [hR1]; simp, ?_, hFS, hfl, ?_, .inr rfl, Nat.le_refl _, hlb, hst, ?_, ?_, ?_⟩
          · rw [hbk, ← step_tx]; exact hT3
          · rw [hbk, ← List.append_assoc]; exact el_at
          · rw [← e2]; walk_at "ml0"
          · walk_at "ml0"
          · walk_at "ml0"
        · have hx' : r.text = "" := by simpa using hx
          walk_at "ms"
          have hbk : rowBlock ab T0.length lc r = elBlock ab T0.length r.name lc r.uris r.attrs [] := if_pos hx'
          refine ⟨T2, T0 ++ rowBlock ab T0.length lc r, T0.length, te, fs ++ [T0.length], fv ++ [.int t.length te], pre ++ (D, .lst (strValues l)) :: pre0, r0, elRow ab r.name lc (ix (T0.length + 1) r.uris.length) (ix (T0.length + 1 + r.uris.length) r.attrs.length) [], e2, by rw [hR1]; simp, ?_, hFS, hfl, ?_, .inr rfl, Nat.zero_le _, hlb, hst, ?_, ?_, ?_⟩
          · rw [hbk]; exact hT2
          · rw [hbk]
            have := el_at (T0 := T0) (ab := ab) (nm := r.name) (lc := lc) (us := r.uris) (as := r.attrs) (ch := []) (r := [])
            rw [List.append_nil] at this; exact this
          · rw [← e2]; walk_at "ml0"
          · walk_at "ml0"
          · walk_at "ml0"
  case fin =>
    rintro ⟨m, mu⟩ h_1
    refine hide ?_
    intro X_ k_
    first | (refine ex9 h_1 ?_; clear h_1; rintro T t ab ta fs fv pre0 r0 nr hr_; first | (refine and13 hr_ ?_; clear hr_; rintro rfl hmu hT hF hn hab hk hc hl hS m1 m2 m3) | (refine and12 hr_ ?_; clear hr_; rintro rfl hmu hT hF hn hab hk hc hl hS m1 ⟨m2, m3⟩) | (refine and11 hr_ ?_; clear hr_; rintro rfl hmu hT hF hn hab hk hc hl hS ⟨m1, m2, m3⟩) | (refine and10 hr_ ?_; clear hr_; rintro rfl hmu hT hF hn hab hk hc hl ⟨hS, m1, m2, m3⟩) | (refine and9 hr_ ?_; clear hr_; rintro rfl hmu hT hF hn hab hk hc ⟨hl, hS, m1, m2, m3⟩) | (refine and8 hr_ ?_; clear hr_; rintro rfl hmu hT hF hn hab hk ⟨hc, hl, hS, m1, m2, m3⟩) | (refine and7 hr_ ?_; clear hr_; rintro rfl hmu hT hF hn hab ⟨hk, hc, hl, hS, m1, m2, m3⟩) | (refine and6 hr_ ?_; clear hr_; rintro rfl hmu hT hF hn ⟨hab, hk, hc, hl, hS, m1, m2, m3⟩) | (refine and5 hr_ ?_; clear hr_; rintro rfl hmu hT hF ⟨hn, hab, hk, hc, hl, hS, m1, m2, m3⟩) | (refine and4 hr_ ?_; clear hr_; rintro rfl hmu hT ⟨hF, hn, hab, hk, hc, hl, hS, m1, m2, m3⟩) | (refine and3 hr_ ?_; clear hr_; rintro rfl hmu ⟨hT, hF, hn, hab, hk, hc, hl, hS, m1, m2, m3⟩) | obtain ⟨rfl, hmu, hT, hF, hn, hab, hk, hc, hl, hS, m1, m2, m3⟩ := hr_) | (refine ex8 h_1 ?_; clear h_1; rintro T t ab ta fs fv pre0 r0 hr_; first | (refine and14 hr_ ?_; clear hr_; rintro nr rfl hmu hT hF hn hab hk hc hl hS m1 m2 m3) | (refine and13 hr_ ?_; clear hr_; rintro nr rfl hmu hT hF hn hab hk hc hl hS m1 ⟨m2, m3⟩) | (refine and12 hr_ ?_; clear hr_; rintro nr rfl hmu hT hF hn hab hk hc hl hS ⟨m1, m2, m3⟩) | (refine and11 hr_ ?_; clear hr_; rintro nr rfl hmu hT hF hn hab hk hc hl ⟨hS, m1, m2, m3⟩) | (refine and10 hr_ ?_; clear hr_; rintro nr rfl hmu hT hF hn hab hk hc ⟨hl, hS, m1, m2, m3⟩) | (refine and9 hr_ ?_; clear hr_; rintro nr rfl hmu hT hF hn hab hk ⟨hc, hl, hS, m1, m2, m3⟩) | (refine and8 hr_ ?_; clear hr_; rintro nr rfl hmu hT hF hn hab ⟨hk, hc, hl, hS, m1, m2, m3⟩) | (refine and7 hr_ ?_; clear hr_; rintro nr rfl hmu hT hF hn ⟨hab, hk, hc, hl, hS, m1, m2, m3⟩) | (refine and6 hr_ ?_; clear hr_; rintro nr rfl hmu hT hF ⟨hn, hab, hk, hc, hl, hS, m1, m2, m3⟩) | (refine and5 hr_ ?_; clear hr_; rintro nr rfl hmu hT ⟨hF, hn, hab, hk, hc, hl, hS, m1, m2, m3⟩) | (refine and4 hr_ ?_; clear hr_; rintro nr rfl hmu ⟨hT, hF, hn, hab, hk, hc, hl, hS, m1, m2, m3⟩) | (refine and3 hr_ ?_; clear hr_; rintro nr rfl ⟨hmu, hT, hF, hn, hab, hk, hc, hl, hS, m1, m2, m3⟩) | obtain ⟨nr, rfl, hmu, hT, hF, hn, hab, hk, hc, hl, hS, m1, m2, m3⟩ := hr_) | (refine ex7 h_1 ?_; clear h_1; rintro T t ab ta fs fv pre0 hr_; first | (refine and15 hr_ ?_; clear hr_; rintro r0 nr rfl hmu hT hF hn hab hk hc hl hS m1 m2 m3) | (refine and14 hr_ ?_; clear hr_; rintro r0 nr rfl hmu hT hF hn hab hk hc hl hS m1 ⟨m2, m3⟩) | (refine and13 hr_ ?_; clear hr_; rintro r0 nr rfl hmu hT hF hn hab hk hc hl hS ⟨m1, m2, m3⟩) | (refine and12 hr_ ?_; clear hr_; rintro r0 nr rfl hmu hT hF hn hab hk hc hl ⟨hS, m1, m2, m3⟩) | (refine and11 hr_ ?_; clear hr_; rintro r0 nr rfl hmu hT hF hn hab hk hc ⟨hl, hS, m1, m2, m3⟩) | (refine and10 hr_ ?_; clear hr_; rintro r0 nr rfl hmu hT hF hn hab hk ⟨hc, hl, hS, m1, m2, m3⟩) | (refine and9 hr_ ?_; clear hr_; rintro r0 nr rfl hmu hT hF hn hab ⟨hk, hc, hl, hS, m1, m2, m3⟩) | (refine and8 hr_ ?_; clear hr_; rintro r0 nr rfl hmu hT hF hn ⟨hab, hk, hc, hl, hS, m1, m2, m3⟩) | (refine and7 hr_ ?_; clear hr_; rintro r0 nr rfl hmu hT hF ⟨hn, hab, hk, hc, hl, hS, m1, m2, m3⟩) | (refine and6 hr_ ?_; clear hr_; rintro r0 nr rfl hmu hT ⟨hF, hn, hab, hk, hc, hl, hS, m1, m2, m3⟩) | (refine and5 hr_ ?_; clear hr_; rintro r0 nr rfl hmu ⟨hT, hF, hn, hab, hk, hc, hl, hS, m1, m2, m3⟩) | (refine and4 hr_ ?_; clear hr_; rintro r0 nr rfl ⟨hmu, hT, hF, hn, hab, hk, hc, hl, hS, m1, m2, m3⟩) | (refine and3 hr_ ?_; clear hr_; rintro r0 nr ⟨rfl, hmu, hT, hF, hn, hab, hk, hc, hl, hS, m1, m2, m3⟩) | obtain ⟨r0, nr, rfl, hmu, hT, hF, hn, hab, hk, hc, hl, hS, m1, m2, m3⟩ := hr_) | (refine ex6 h_1 ?_; clear h_1; rintro T t ab ta fs fv hr_; first | (refine and16 hr_ ?_; clear hr_; rintro pre0 r0 nr rfl hmu hT hF hn hab hk hc hl hS m1 m2 m3) | (refine and15 hr_ ?_; clear hr_; rintro pre0 r0 nr rfl hmu hT hF hn hab hk hc hl hS m1 ⟨m2, m3⟩) | (refine and14 hr_ ?_; clear hr_; rintro pre0 r0 nr rfl hmu hT hF hn hab hk hc hl hS ⟨m1, m2, m3⟩) | (refine and13 hr_ ?_; clear hr_; rintro pre0 r0 nr rfl hmu hT hF hn hab hk hc hl ⟨hS, m1, m2, m3⟩) | (refine and12 hr_ ?_; clear hr_; rintro pre0 r0 nr rfl hmu hT hF hn hab hk hc ⟨hl, hS, m1, m2, m3⟩) | (refine and11 hr_ ?_; clear hr_; rintro pre0 r0 nr rfl hmu hT hF hn hab hk ⟨hc, hl, hS, m1, m2, m3⟩) | (refine and10 hr_ ?_; clear hr_; rintro pre0 r0 nr rfl hmu hT hF hn hab ⟨hk, hc, hl, hS, m1, m2, m3⟩) | (refine and9 hr_ ?_; clear hr_; rintro pre0 r0 nr rfl hmu hT hF hn ⟨hab, hk, hc, hl, hS, m1, m2, m3⟩) | (refine and8 hr_ ?_; clear hr_; rintro pre0 r0 nr rfl hmu hT hF ⟨hn, hab, hk, hc, hl, hS, m1, m2, m3⟩) | (refine and7 hr_ ?_; clear hr_; rintro pre0 r0 nr rfl hmu hT ⟨hF, hn, hab, hk, hc, hl, hS, m1, m2, m3⟩) | (refine and6 hr_ ?_; clear hr_; rintro pre0 r0 nr rfl hmu ⟨hT, hF, hn, hab, hk, hc, hl, hS, m1, m2, m3⟩) | (refine and5 hr_ ?_; clear hr_; rintro pre0 r0 nr rfl ⟨hmu, hT, hF, hn, hab, hk, hc, hl, hS, m1, m2, m3⟩) | (refine and4 hr_ ?_; clear hr_; rintro pre0 r0 nr ⟨rfl, hmu, hT, hF, hn, hab, hk, hc, hl, hS, m1, m2, m3⟩) | (refine and3 hr_ ?_; clear hr_; rintro pre0 r0 ⟨nr, rfl, hmu, hT, hF, hn, hab, hk, hc, hl, hS, m1, m2, m3⟩) | obtain ⟨pre0, r0, nr, rfl, hmu, hT, hF, hn, hab, hk, hc, hl, hS, m1, m2, m3⟩ := hr_) | (refine ex5 h_1 ?_; clear h_1; rintro T t ab ta fs hr_; first | (refine and16 hr_ ?_; clear hr_; rintro fv pre0 r0 nr rfl hmu hT hF hn hab hk hc hl hS m1 ⟨m2, m3⟩) | (refine and15 hr_ ?_; clear hr_; rintro fv pre0 r0 nr rfl hmu hT hF hn hab hk hc hl hS ⟨m1, m2, m3⟩) | (refine and14 hr_ ?_; clear hr_; rintro fv pre0 r0 nr rfl hmu hT hF hn hab hk hc hl ⟨hS, m1, m2, m3⟩) | (refine and13 hr_ ?_; clear hr_; rintro fv pre0 r0 nr rfl hmu hT hF hn hab hk hc ⟨hl, hS, m1, m2, m3⟩) | (refine and12 hr_ ?_; clear hr_; rintro fv pre0 r0 nr rfl hmu hT hF hn hab hk ⟨hc, hl, hS, m1, m2, m3⟩) | (refine and11 hr_ ?_; clear hr_; rintro fv pre0 r0 nr rfl hmu hT hF hn hab ⟨hk, hc, hl, hS, m1, m2, m3⟩) | (refine and10 hr_ ?_; clear hr_; rintro fv pre0 r0 nr rfl hmu hT hF hn ⟨hab, hk, hc, hl, hS, m1, m2, m3⟩) | (refine and9 hr_ ?_; clear hr_; rintro fv pre0 r0 nr rfl hmu hT hF ⟨hn, hab, hk, hc, hl, hS, m1, m2, m3⟩) | (refine and8 hr_ ?_; clear hr_; rintro fv pre0 r0 nr rfl hmu hT ⟨hF, hn, hab, hk, hc, hl, hS, m1, m2, m3⟩) | (refine and7 hr_ ?_; clear hr_; rintro fv pre0 r0 nr rfl hmu ⟨hT, hF, hn, hab, hk, hc, hl, hS, m1, m2, m3⟩) | (refine and6 hr_ ?_; clear hr_; rintro fv pre0 r0 nr rfl ⟨hmu, hT, hF, hn, hab, hk, hc, hl, hS, m1, m2, m3⟩) | (refine and5 hr_ ?_; clear hr_; rintro fv pre0 r0 nr ⟨rfl, hmu, hT, hF, hn, hab, hk, hc, hl, hS, m1, m2, m3⟩) | (refine and4 hr_ ?_; clear hr_; rintro fv pre0 r0 ⟨nr, rfl, hmu, hT, hF, hn, hab, hk, hc, hl, hS, m1, m2, m3⟩) | (refine and3 hr_ ?_; clear hr_; rintro fv pre0 ⟨r0, nr, rfl, hmu, hT, hF, hn, hab, hk, hc, hl, hS, m1, m2, m3⟩) | obtain ⟨fv, pre0, r0, nr, rfl, hmu, hT, hF, hn, hab, hk, hc, hl, hS, m1, m2, m3⟩ := hr_) | (refine ex4 h_1 ?_; clear h_1; rintro T t ab ta hr_; first | (refine and16 hr_ ?_; clear hr_; rintro fs fv pre0 r0 nr rfl hmu hT hF hn hab hk hc hl hS ⟨m1, m2, m3⟩) | (refine and15 hr_ ?_; clear hr_; rintro fs fv pre0 r0 nr rfl hmu hT hF hn hab hk hc hl ⟨hS, m1, m2, m3⟩) | (refine and14 hr_ ?_; clear hr_; rintro fs fv pre0 r0 nr rfl hmu hT hF hn hab hk hc ⟨hl, hS, m1, m2, m3⟩) | (refine and13 hr_ ?_; clear hr_; rintro fs fv pre0 r0 nr rfl hmu hT hF hn hab hk ⟨hc, hl, hS, m1, m2, m3⟩) | (refine and12 hr_ ?_; clear hr_; rintro fs fv pre0 r0 nr rfl hmu hT hF hn hab ⟨hk, hc, hl, hS, m1, m2, m3⟩) | (refine and11 hr_ ?_; clear hr_; rintro fs fv pre0 r0 nr rfl hmu hT hF hn ⟨hab, hk, hc, hl, hS, m1, m2, m3⟩) | (refine and10 hr_ ?_; clear hr_; rintro fs fv pre0 r0 nr rfl hmu hT hF ⟨hn, hab, hk, hc, hl, hS, m1, m2, m3⟩) | (refine and9 hr_ ?_; clear hr_; rintro fs fv pre0 r0 nr rfl hmu hT ⟨hF, hn, hab, hk, hc, hl, hS, m1, m2, m3⟩) | (refine and8 hr_ ?_; clear hr_; rintro fs fv pre0 r0 nr rfl hmu ⟨hT, hF, hn, hab, hk, hc, hl, hS, m1, m2, m3⟩) | (refine and7 hr_ ?_; clear hr_; rintro fs fv pre0 r0 nr rfl ⟨hmu, hT, hF, hn, hab, hk, hc, hl, hS, m1, m2, m3⟩) | (refine and6 hr_ ?_; clear hr_; rintro fs fv pre0 r0 nr ⟨rfl, hmu, hT, hF, hn, hab, hk, hc, hl, hS, m1, m2, m3⟩) | (refine and5 hr_ ?_; clear hr_; rintro fs fv pre0 r0 ⟨nr, rfl, hmu, hT, hF, hn, hab, hk, hc, hl, hS, m1, m2, m3⟩) | (refine and4 hr_ ?_; clear hr_; rintro fs fv pre0 ⟨r0, nr, rfl, hmu, hT, hF, hn, hab, hk, hc, hl, hS, m1, m2, m3⟩) | (refine and3 hr_ ?_; clear hr_; rintro fs fv ⟨pre0, r0, nr, rfl, hmu, hT, hF, hn, hab, hk, hc, hl, hS, m1, m2, m3⟩) | obtain ⟨fs, fv, pre0, r0, nr, rfl, hmu, hT, hF, hn, hab, hk, hc, hl, hS, m1, m2, m3⟩ := hr_) | (refine ex3 h_1 ?_; clear h_1; rintro T t ab hr_; first | (refine and16 hr_ ?_; clear hr_; rintro ta fs fv pre0 r0 nr rfl hmu hT hF hn hab hk hc hl ⟨hS, m1, m2, m3⟩) | (refine and15 hr_ ?_; clear hr_; rintro ta fs fv pre0 r0 nr rfl hmu hT hF hn hab hk hc ⟨hl, hS, m1, m2, m3⟩) | (refine and14 hr_ ?_; clear hr_; rintro ta fs fv pre0 r0 nr rfl hmu hT hF hn hab hk ⟨hc, hl, hS, m1, m2, m3⟩) | (refine and13 hr_ ?_; clear hr_; rintro ta fs fv pre0 r0 nr rfl hmu hT hF hn hab ⟨hk, hc, hl, hS, m1, m2, m3⟩) | (refine and12 hr_ ?_; clear hr_; rintro ta fs fv pre0 r0 nr rfl hmu hT hF hn ⟨hab, hk, hc, hl, hS, m1, m2, m3⟩) | (refine and11 hr_ ?_; clear hr_; rintro ta fs fv pre0 r0 nr rfl hmu hT hF ⟨hn, hab, hk, hc, hl, hS, m1, m2, m3⟩) | (refine and10 hr_ ?_; clear hr_; rintro ta fs fv pre0 r0 nr rfl hmu hT ⟨hF, hn, hab, hk, hc, hl, hS, m1, m2, m3⟩) | (refine and9 hr_ ?_; clear hr_; rintro ta fs fv pre0 r0 nr rfl hmu ⟨hT, hF, hn, hab, hk, hc, hl, hS, m1, m2, m3⟩) | (refine and8 hr_ ?_; clear hr_; rintro ta fs fv pre0 r0 nr rfl ⟨hmu, hT, hF, hn, hab, hk, hc, hl, hS, m1, m2, m3⟩) | (refine and7 hr_ ?_; clear hr_; rintro ta fs fv pre0 r0 nr ⟨rfl, hmu, hT, hF, hn, hab, hk, hc, hl, hS, m1, m2, m3⟩) | (refine and6 hr_ ?_; clear hr_; rintro ta fs fv pre0 r0 ⟨nr, rfl, hmu, hT, hF, hn, hab, hk, hc, hl, hS, m1, m2, m3⟩) | (refine and5 hr_ ?_; clear hr_; rintro ta fs fv pre0 ⟨r0, nr, rfl, hmu, hT, hF, hn, hab, hk, hc, hl, hS, m1, m2, m3⟩) | (refine and4 hr_ ?_; clear hr_; rintro ta fs fv ⟨pre0, r0, nr, rfl, hmu, hT, hF, hn, hab, hk, hc, hl, hS, m1, m2, m3⟩) | (refine and3 hr_ ?_; clear hr_; rintro ta fs ⟨fv, pre0, r0, nr, rfl, hmu, hT, hF, hn, hab, hk, hc, hl, hS, m1, m2, m3⟩) | obtain ⟨ta, fs, fv, pre0, r0, nr, rfl, hmu, hT, hF, hn, hab, hk, hc, hl, hS, m1, m2, m3⟩ := hr_) | (refine ex2 h_1 ?_; clear h_1; rintro T t hr_; first | (refine and16 hr_ ?_; clear hr_; rintro ab ta fs fv pre0 r0 nr rfl hmu hT hF hn hab hk hc ⟨hl, hS, m1, m2, m3⟩) | (refine and15 hr_ ?_; clear hr_; rintro ab ta fs fv pre0 r0 nr rfl hmu hT hF hn hab hk ⟨hc, hl, hS, m1, m2, m3⟩) | (refine and14 hr_ ?_; clear hr_; rintro ab ta fs fv pre0 r0 nr rfl hmu hT hF hn hab ⟨hk, hc, hl, hS, m1, m2, m3⟩) | (refine and13 hr_ ?_; clear hr_; rintro ab ta fs fv pre0 r0 nr rfl hmu hT hF hn ⟨hab, hk, hc, hl, hS, m1, m2, m3⟩) | (refine and12 hr_ ?_; clear hr_; rintro ab ta fs fv pre0 r0 nr rfl hmu hT hF ⟨hn, hab, hk, hc, hl, hS, m1, m2, m3⟩) | (refine and11 hr_ ?_; clear hr_; rintro ab ta fs fv pre0 r0 nr rfl hmu hT ⟨hF, hn, hab, hk, hc, hl, hS, m1, m2, m3⟩) | (refine and10 hr_ ?_; clear hr_; rintro ab ta fs fv pre0 r0 nr rfl hmu ⟨hT, hF, hn, hab, hk, hc, hl, hS, m1, m2, m3⟩) | (refine and9 hr_ ?_; clear hr_; rintro ab ta fs fv pre0 r0 nr rfl ⟨hmu, hT, hF, hn, hab, hk, hc, hl, hS, m1, m2, m3⟩) | (refine and8 hr_ ?_; clear hr_; rintro ab ta fs fv pre0 r0 nr ⟨rfl, hmu, hT, hF, hn, hab, hk, hc, hl, hS, m1, m2, m3⟩) | (refine and7 hr_ ?_; clear hr_; rintro ab ta fs fv pre0 r0 ⟨nr, rfl, hmu, hT, hF, hn, hab, hk, hc, hl, hS, m1, m2, m3⟩) | (refine and6 hr_ ?_; clear hr_; rintro ab ta fs fv pre0 ⟨r0, nr, rfl, hmu, hT, hF, hn, hab, hk, hc, hl, hS, m1, m2, m3⟩) | (refine and5 hr_ ?_; clear hr_; rintro ab ta fs fv ⟨pre0, r0, nr, rfl, hmu, hT, hF, hn, hab, hk, hc, hl, hS, m1, m2, m3⟩) | (refine and4 hr_ ?_; clear hr_; rintro ab ta fs ⟨fv, pre0, r0, nr, rfl, hmu, hT, hF, hn, hab, hk, hc, hl, hS, m1, m2, m3⟩) | (refine and3 hr_ ?_; clear hr_; rintro ab ta ⟨fs, fv, pre0, r0, nr, rfl, hmu, hT, hF, hn, hab, hk, hc, hl, hS, m1, m2, m3⟩) | obtain ⟨ab, ta, fs, fv, pre0, r0, nr, rfl, hmu, hT, hF, hn, hab, hk, hc, hl, hS, m1, m2, m3⟩ := hr_) | (refine ex1 h_1 ?_; clear h_1; rintro T hr_; first | (refine and16 hr_ ?_; clear hr_; rintro t ab ta fs fv pre0 r0 nr rfl hmu hT hF hn hab hk ⟨hc, hl, hS, m1, m2, m3⟩) | (refine and15 hr_ ?_; clear hr_; rintro t ab ta fs fv pre0 r0 nr rfl hmu hT hF hn hab ⟨hk, hc, hl, hS, m1, m2, m3⟩) | (refine and14 hr_ ?_; clear hr_; rintro t ab ta fs fv pre0 r0 nr rfl hmu hT hF hn ⟨hab, hk, hc, hl, hS, m1, m2, m3⟩) | (refine and13 hr_ ?_; clear hr_; rintro t ab ta fs fv pre0 r0 nr rfl hmu hT hF ⟨hn, hab, hk, hc, hl, hS, m1, m2, m3⟩) | (refine and12 hr_ ?_; clear hr_; rintro t ab ta fs fv pre0 r0 nr rfl hmu hT ⟨hF, hn, hab, hk, hc, hl, hS, m1, m2, m3⟩) | (refine and11 hr_ ?_; clear hr_; rintro t ab ta fs fv pre0 r0 nr rfl hmu ⟨hT, hF, hn, hab, hk, hc, hl, hS, m1, m2, m3⟩) | (refine and10 hr_ ?_; clear hr_; rintro t ab ta fs fv pre0 r0 nr rfl ⟨hmu, hT, hF, hn, hab, hk, hc, hl, hS, m1, m2, m3⟩) | (refine and9 hr_ ?_; clear hr_; rintro t ab ta fs fv pre0 r0 nr ⟨rfl, hmu, hT, hF, hn, hab, hk, hc, hl, hS, m1, m2, m3⟩) | (refine and8 hr_ ?_; clear hr_; rintro t ab ta fs fv pre0 r0 ⟨nr, rfl, hmu, hT, hF, hn, hab, hk, hc, hl, hS, m1, m2, m3⟩) | (refine and7 hr_ ?_; clear hr_; rintro t ab ta fs fv pre0 ⟨r0, nr, rfl, hmu, hT, hF, hn, hab, hk, hc, hl, hS, m1, m2, m3⟩) | (refine and6 hr_ ?_; clear hr_; rintro t ab ta fs fv ⟨pre0, r0, nr, rfl, hmu, hT, hF, hn, hab, hk, hc, hl, hS, m1, m2, m3⟩) | (refine and5 hr_ ?_; clear hr_; rintro t ab ta fs ⟨fv, pre0, r0, nr, rfl, hmu, hT, hF, hn, hab, hk, hc, hl, hS, m1, m2, m3⟩) | (refine and4 hr_ ?_; clear hr_; rintro t ab ta ⟨fs, fv, pre0, r0, nr, rfl, hmu, hT, hF, hn, hab, hk, hc, hl, hS, m1, m2, m3⟩) | (refine and3 hr_ ?_; clear hr_; rintro t ab ⟨ta, fs, fv, pre0, r0, nr, rfl, hmu, hT, hF, hn, hab, hk, hc, hl, hS, m1, m2, m3⟩) | obtain ⟨t, ab, ta, fs, fv, pre0, r0, nr, rfl, hmu, hT, hF, hn, hab, hk, hc, hl, hS, m1, m2, m3⟩ := hr_) | (first | (refine and16 h_1 ?_; clear h_1; rintro T t ab ta fs fv pre0 r0 nr rfl hmu hT hF hn hab ⟨hk, hc, hl, hS, m1, m2, m3⟩) | (refine and15 h_1 ?_; clear h_1; rintro T t ab ta fs fv pre0 r0 nr rfl hmu hT hF hn ⟨hab, hk, hc, hl, hS, m1, m2, m3⟩) | (refine and14 h_1 ?_; clear h_1; rintro T t ab ta fs fv pre0 r0 nr rfl hmu hT hF ⟨hn, hab, hk, hc, hl, hS, m1, m2, m3⟩) | (refine and13 h_1 ?_; clear h_1; rintro T t ab ta fs fv pre0 r0 nr rfl hmu hT ⟨hF, hn, hab, hk, hc, hl, hS, m1, m2, m3⟩) | (refine and12 h_1 ?_; clear h_1; rintro T t ab ta fs fv pre0 r0 nr rfl hmu ⟨hT, hF, hn, hab, hk, hc, hl, hS, m1, m2, m3⟩) | (refine and11 h_1 ?_; clear h_1; rintro T t ab ta fs fv pre0 r0 nr rfl ⟨hmu, hT, hF, hn, hab, hk, hc, hl, hS, m1, m2, m3⟩) | (refine and10 h_1 ?_; clear h_1; rintro T t ab ta fs fv pre0 r0 nr ⟨rfl, hmu, hT, hF, hn, hab, hk, hc, hl, hS, m1, m2, m3⟩) | (refine and9 h_1 ?_; clear h_1; rintro T t ab ta fs fv pre0 r0 ⟨nr, rfl, hmu, hT, hF, hn, hab, hk, hc, hl, hS, m1, m2, m3⟩) | (refine and8 h_1 ?_; clear h_1; rintro T t ab ta fs fv pre0 ⟨r0, nr, rfl, hmu, hT, hF, hn, hab, hk, hc, hl, hS, m1, m2, m3⟩) | (refine and7 h_1 ?_; clear h_1; rintro T t ab ta fs fv ⟨pre0, r0, nr, rfl, hmu, hT, hF, hn, hab, hk, hc, hl, hS, m1, m2, m3⟩) | (refine and6 h_1 ?_; clear h_1; rintro T t ab ta fs ⟨fv, pre0, r0, nr, rfl, hmu, hT, hF, hn, hab, hk, hc, hl, hS, m1, m2, m3⟩) | (refine and5 h_1 ?_; clear h_1; rintro T t ab ta ⟨fs, fv, pre0, r0, nr, rfl, hmu, hT, hF, hn, hab, hk, hc, hl, hS, m1, m2, m3⟩) | (refine and4 h_1 ?_; clear h_1; rintro T t ab ⟨ta, fs, fv, pre0, r0, nr, rfl, hmu, hT, hF, hn, hab, hk, hc, hl, hS, m1, m2, m3⟩) | (refine and3 h_1 ?_; clear h_1; rintro T t ⟨ab, ta, fs, fv, pre0, r0, nr, rfl, hmu, hT, hF, hn, hab, hk, hc, hl, hS, m1, m2, m3⟩) | obtain ⟨T, t, ab, ta, fs, fv, pre0, r0, nr, rfl, hmu, hT, hF, hn, hab, hk, hc, hl, hS, m1, m2, m3⟩ := h_1)
    refine k_ ?_
    clear k_ X_
    dsimp only at hmu m1 m2 m3
    subst hmu
    walk_at "ms"
    rename_i res
    refine ⟨res, f, fs, fv, T, t, pre0, r0, rfl, rfl, hT, hF, ?_⟩
    have := hS [] t [] ⟨rfl, rfl⟩
    rw [List.append_nil, List.append_nil, ← hr.len, List.take_length] at this
    exact this
end
end Mine
end -- F13

section -- F14
open PySem PySem.W PySem.Calls PyProof.Rows PySem.Builtin
namespace Mine
section
variable {prog : Program} {w : World} {O : Heap} {A : Around} {P : Params} {mg mb : Str → Option Value} {g : Kn}

/-- the way up from a node -/
noncomputable def PathUp (t : List NR) : Option Nat → List Nat → Prop
  | none, [] => True
  | some i, j :: r => i = j ∧ ∃ nr, t[i]? = some nr ∧ PathUp t nr.parent r
  | _, _ => False
theorem lines_ok (G : Gnd (hk.heap_1 P) O mg mb) (hA : Amb A 3) {T : TA} {t : List NR} (hT : TreeIs T t) (hg : inG g (treeLed T)) {i : Nat} {ti : Tok} {path : List Nat} (hp : PathUp t (some i) path) (hz : path.length ≤ 1000) :
    Calls prog w O A (.ref 60) [.ref T.x, .int i ti] g [] (fun v mu' => ∃ b vs, v = .ref b ∧ (b, .lst vs) ∈ mu' ∧ Each NV' path.reverse vs) := by
  refine Calls.fn (n := 2) [("node", .int i ti), ("tree", .ref T.x)] G hA (by k_is) (by k_is) (fun _ _ => BindsTo.of_eq rfl) (locs rfl) ?_ (by rfl) (by rfl) (by rfl) (by decide)
  intro L s env c hA G
  have hh : c.A.handled = none := hA.handled
  have k1 := tg1 hg
  have k2 := tg2 hg
  walk_at "ms"
  rename_i f
  refine w_while (fun n st => ∃ (done rest : List Nat) (cur : Option Nat) (pv : Value) (fv : List Value), path = done ++ rest ∧ rest.length = n ∧ PathUp t cur rest ∧ PV cur pv ∧ st.m "node" = some pv ∧ st.m "tree" = some (.ref T.x) ∧ st.m "found" = some (.ref f) ∧ st.mu = [(f, .lst fv)] ∧ Each NV' done fv) path.length ?_ ?_
  · exact ⟨[], path, some i, .int i ti, [], rfl, rfl, hp, ⟨ti, rfl⟩, by walk_at "ml0", by walk_at "ml0", by walk_at "ml0", rfl, trivial⟩
  · rintro n ⟨m, mu⟩ h_2
    refine hide ?_
    intro X_ k_
    first | (refine ex12 h_2 ?_; clear h_2; rintro done rest cur pv fv hpe hn hpu hpv m1 m2 m3 hr_; first | obtain ⟨hmu, hE⟩ := hr_) | (refine ex11 h_2 ?_; clear h_2; rintro done rest cur pv fv hpe hn hpu hpv m1 m2 hr_; first | (refine and3 hr_ ?_; clear hr_; rintro m3 hmu hE) | obtain ⟨m3, hmu, hE⟩ := hr_) | (refine ex10 h_2 ?_; clear h_2; rintro done rest cur pv fv hpe hn hpu hpv m1 hr_; first | (refine and4 hr_ ?_; clear hr_; rintro m2 m3 hmu hE) | (refine and3 hr_ ?_; clear hr_; rintro m2 m3 ⟨hmu, hE⟩) | obtain ⟨m2, m3, hmu, hE⟩ := hr_) | (refine ex9 h_2 ?_; clear h_2; rintro done rest cur pv fv hpe hn hpu hpv hr_; first | (refine and5 hr_ ?_; clear hr_; rintro m1 m2 m3 hmu hE) | (refine and4 hr_ ?_; clear hr_; rintro m1 m2 m3 ⟨hmu, hE⟩) | (refine and3 hr_ ?_; clear hr_; rintro m1 m2 ⟨m3, hmu, hE⟩) | obtain ⟨m1, m2, m3, hmu, hE⟩ := hr_) | (refine ex8 h_2 ?_; clear h_2; rintro done rest cur pv fv hpe hn hpu hr_; first | (refine and6 hr_ ?_; clear hr_; rintro hpv m1 m2 m3 hmu hE) | (refine and5 hr_ ?_; clear hr_; rintro hpv m1 m2 m3 ⟨hmu, hE⟩) | (refine and4 hr_ ?_; clear hr_; rintro hpv m1 m2 ⟨m3, hmu, hE⟩) | (refine and3 hr_ ?_; clear hr_; rintro hpv m1 ⟨m2, m3, hmu, hE⟩) | obtain ⟨hpv, m1, m2, m3, hmu, hE⟩ := hr_) | (refine ex7 h_2 ?_; clear h_2; rintro done rest cur pv fv hpe hn hr_; first | (refine and7 hr_ ?_; clear hr_; rintro hpu hpv m1 m2 m3 hmu hE) | (refine and6 hr_ ?_; clear hr_; rintro hpu hpv m1 m2 m3 ⟨hmu, hE⟩) | (refine and5 hr_ ?_; clear hr_; rintro hpu hpv m1 m2 ⟨m3, hmu, hE⟩) | (refine and4 hr_ ?_; clear hr_; rintro hpu hpv m1 ⟨m2, m3, hmu, hE⟩) | (refine and3 hr_ ?_; clear hr_; rintro hpu hpv ⟨m1, m2, m3, hmu, hE⟩) | obtain ⟨hpu, hpv, m1, m2, m3, hmu, hE⟩ := hr_) | (refine ex6 h_2 ?_; clear h_2; rintro done rest cur pv fv hpe hr_; first | (refine and8 hr_ ?_; clear hr_; rintro hn hpu hpv m1 m2 m3 hmu hE) | (refine and7 hr_ ?_; clear hr_; rintro hn hpu hpv m1 m2 m3 ⟨hmu, hE⟩) | (refine and6 hr_ ?_; clear hr_; rintro hn hpu hpv m1 m2 ⟨m3, hmu, hE⟩) | (refine and5 hr_ ?_; clear hr_; rintro hn hpu hpv m1 ⟨m2, m3, hmu, hE⟩) | (refine and4 hr_ ?_; clear hr_; rintro hn hpu hpv ⟨m1, m2, m3, hmu, hE⟩) | (refine and3 hr_ ?_; clear hr_; rintro hn hpu ⟨hpv, m1, m2, m3, hmu, hE⟩) | obtain ⟨hn, hpu, hpv, m1, m2, m3, hmu, hE⟩ := hr_) | (refine ex5 h_2 ?_; clear h_2; rintro done rest cur pv fv hr_; first | (refine and9 hr_ ?_; clear hr_; rintro hpe hn hpu hpv m1 m2 m3 hmu hE) | (refine and8 hr_ ?_; clear hr_; rintro hpe hn hpu hpv m1 m2 m3 ⟨hmu, hE⟩) | (refine and7 hr_ ?_; clear hr_; rintro hpe hn hpu hpv m1 m2 ⟨m3, hmu, hE⟩) | (refine and6 hr_ ?_; clear hr_; rintro hpe hn hpu hpv m1 ⟨m2, m3, hmu, hE⟩) | (refine and5 hr_ ?_; clear hr_; rintro hpe hn hpu hpv ⟨m1, m2, m3, hmu, hE⟩) | (refine and4 hr_ ?_; clear hr_; rintro hpe hn hpu ⟨hpv, m1, m2, m3, hmu, hE⟩) | (refine and3 hr_ ?_; clear hr_; rintro hpe hn ⟨hpu, hpv, m1, m2, m3, hmu, hE⟩) | obtain ⟨hpe, hn, hpu, hpv, m1, m2, m3, hmu, hE⟩ := hr_) | (refine ex4 h_2 ?_; clear h_2; rintro done rest cur pv hr_; first | (refine and10 hr_ ?_; clear hr_; rintro fv hpe hn hpu hpv m1 m2 m3 hmu hE) | (refine and9 hr_ ?_; clear hr_; rintro fv hpe hn hpu hpv m1 m2 m3 ⟨hmu, hE⟩) | (refine and8 hr_ ?_; clear hr_; rintro fv hpe hn hpu hpv m1 m2 ⟨m3, hmu, hE⟩) | (refine and7 hr_ ?_; clear hr_; rintro fv hpe hn hpu hpv m1 ⟨m2, m3, hmu, hE⟩) | (refine and6 hr_ ?_; clear hr_; rintro fv hpe hn hpu hpv ⟨m1, m2, m3, hmu, hE⟩) | (refine and5 hr_ ?_; clear hr_; rintro fv hpe hn hpu ⟨hpv, m1, m2, m3, hmu, hE⟩) | (refine and4 hr_ ?_; clear hr_; rintro fv hpe hn ⟨hpu, hpv, m1, m2, m3, hmu, hE⟩) | (refine and3 hr_ ?_; clear hr_; rintro fv hpe ⟨hn, hpu, hpv, m1, m2, m3, hmu, hE⟩) | obtain ⟨fv, hpe, hn, hpu, hpv, m1, m2, m3, hmu, hE⟩ := hr_) | (refine ex3 h_2 ?_; clear h_2; rintro done rest cur hr_; first | (refine and11 hr_ ?_; clear hr_; rintro pv fv hpe hn hpu hpv m1 m2 m3 hmu hE) | (refine and10 hr_ ?_; clear hr_; rintro pv fv hpe hn hpu hpv m1 m2 m3 ⟨hmu, hE⟩) | (refine and9 hr_ ?_; clear hr_; rintro pv fv hpe hn hpu hpv m1 m2 ⟨m3, hmu, hE⟩) | (refine and8 hr_ ?_; clear hr_; rintro pv fv hpe hn hpu hpv m1 ⟨m2, m3, hmu, hE⟩) | (refine and7 hr_ ?_; clear hr_; rintro pv fv hpe hn hpu hpv ⟨m1, m2, m3, hmu, hE⟩) | (refine and6 hr_ ?_; clear hr_; rintro pv fv hpe hn hpu ⟨hpv, m1, m2, m3, hmu, hE⟩) | (refine and5 hr_ ?_; clear hr_; rintro pv fv hpe hn ⟨hpu, hpv, m1, m2, m3, hmu, hE⟩) | (refine and4 hr_ ?_; clear hr_; rintro pv fv hpe ⟨hn, hpu, hpv, m1, m2, m3, hmu, hE⟩) | (refine and3 hr_ ?_; clear hr_; rintro pv fv ⟨hpe, hn, hpu, hpv, m1, m2, m3, hmu, hE⟩) | obtain ⟨pv, fv, hpe, hn, hpu, hpv, m1, m2, m3, hmu, hE⟩ := hr_) | (refine ex2 h_2 ?_; clear h_2; rintro done rest hr_; first | (refine and12 hr_ ?_; clear hr_; rintro cur pv fv hpe hn hpu hpv m1 m2 m3 hmu hE) | (refine and11 hr_ ?_; clear hr_; rintro cur pv fv hpe hn hpu hpv m1 m2 m3 ⟨hmu, hE⟩) | (refine and10 hr_ ?_; clear hr_; rintro cur pv fv hpe hn hpu hpv m1 m2 ⟨m3, hmu, hE⟩) | (refine and9 hr_ ?_; clear hr_; rintro cur pv fv hpe hn hpu hpv m1 ⟨m2, m3, hmu, hE⟩) | (refine and8 hr_ ?_; clear hr_; rintro cur pv fv hpe hn hpu hpv ⟨m1, m2, m3, hmu, hE⟩) | (refine and7 hr_ ?_; clear hr_; rintro cur pv fv hpe hn hpu ⟨hpv, m1, m2, m3, hmu, hE⟩) | (refine and6 hr_ ?_; clear hr_; rintro cur pv fv hpe hn ⟨hpu, hpv, m1, m2, m3, hmu, hE⟩) | (refine and5 hr_ ?_; clear hr_; rintro cur pv fv hpe ⟨hn, hpu, hpv, m1, m2, m3, hmu, hE⟩) | (refine and4 hr_ ?_; clear hr_; rintro cur pv fv ⟨hpe, hn, hpu, hpv, m1, m2, m3, hmu, hE⟩) | (refine and3 hr_ ?_; clear hr_; rintro cur pv ⟨fv, hpe, hn, hpu, hpv, m1, m2, m3, hmu, hE⟩) | obtain ⟨cur, pv, fv, hpe, hn, hpu, hpv, m1, m2, m3, hmu, hE⟩ := hr_) | (refine ex1 h_2 ?_; clear h_2; rintro done hr_; first | (refine and13 hr_ ?_; clear hr_; rintro rest cur pv fv hpe hn hpu hpv m1 m2 m3 hmu hE) | (refine and12 hr_ ?_; clear hr_; rintro rest cur pv fv hpe hn hpu hpv m1 m2 m3 ⟨hmu, hE⟩) | (refine and11 hr_ ?_; clear hr_; rintro rest cur pv fv hpe hn hpu hpv m1 m2 ⟨m3, hmu, hE⟩) | (refine and10 hr_ ?_; clear hr_; rintro rest cur pv fv hpe hn hpu hpv m1 ⟨m2, m3, hmu, hE⟩) | (refine and9 hr_ ?_; clear hr_; rintro rest cur pv fv hpe hn hpu hpv ⟨m1, m2, m3, hmu, hE⟩) | (refine and8 hr_ ?_; clear hr_; rintro rest cur pv fv hpe hn hpu ⟨hpv, m1, m2, m3, hmu, hE⟩) | (refine and7 hr_ ?_; clear hr_; rintro rest cur pv fv hpe hn ⟨hpu, hpv, m1, m2, m3, hmu, hE⟩) | (refine and6 hr_ ?_; clear hr_; rintro rest cur pv fv hpe ⟨hn, hpu, hpv, m1, m2, m3, hmu, hE⟩) | (refine and5 hr_ ?_; clear hr_; rintro rest cur pv fv ⟨hpe, hn, hpu, hpv, m1, m2, m3, hmu, hE⟩) | (refine and4 hr_ ?_; clear hr_; rintro rest cur pv ⟨fv, hpe, hn, hpu, hpv, m1, m2, m3, hmu, hE⟩) | (refine and3 hr_ ?_; clear hr_; rintro rest cur ⟨pv, fv, hpe, hn, hpu, hpv, m1, m2, m3, hmu, hE⟩) | obtain ⟨rest, cur, pv, fv, hpe, hn, hpu, hpv, m1, m2, m3, hmu, hE⟩ := hr_) | (first | (refine and14 h_2 ?_; clear h_2; rintro done rest cur pv fv hpe hn hpu hpv m1 m2 m3 hmu hE) | (refine and13 h_2 ?_; clear h_2; rintro done rest cur pv fv hpe hn hpu hpv m1 m2 m3 ⟨hmu, hE⟩) | (refine and12 h_2 ?_; clear h_2; rintro done rest cur pv fv hpe hn hpu hpv m1 m2 ⟨m3, hmu, hE⟩) | (refine and11 h_2 ?_; clear h_2; rintro done rest cur pv fv hpe hn hpu hpv m1 ⟨m2, m3, hmu, hE⟩) | (refine and10 h_2 ?_; clear h_2; rintro done rest cur pv fv hpe hn hpu hpv ⟨m1, m2, m3, hmu, hE⟩) | (refine and9 h_2 ?_; clear h_2; rintro done rest cur pv fv hpe hn hpu ⟨hpv, m1, m2, m3, hmu, hE⟩) | (refine and8 h_2 ?_; clear h_2; rintro done rest cur pv fv hpe hn ⟨hpu, hpv, m1, m2, m3, hmu, hE⟩) | (refine and7 h_2 ?_; clear h_2; rintro done rest cur pv fv hpe ⟨hn, hpu, hpv, m1, m2, m3, hmu, hE⟩) | (refine and6 h_2 ?_; clear h_2; rintro done rest cur pv fv ⟨hpe, hn, hpu, hpv, m1, m2, m3, hmu, hE⟩) | (refine and5 h_2 ?_; clear h_2; rintro done rest cur pv ⟨fv, hpe, hn, hpu, hpv, m1, m2, m3, hmu, hE⟩) | (refine and4 h_2 ?_; clear h_2; rintro done rest cur ⟨pv, fv, hpe, hn, hpu, hpv, m1, m2, m3, hmu, hE⟩) | (refine and3 h_2 ?_; clear h_2; rintro done rest ⟨cur, pv, fv, hpe, hn, hpu, hpv, m1, m2, m3, hmu, hE⟩) | obtain ⟨done, rest, cur, pv, fv, hpe, hn, hpu, hpv, m1, m2, m3, hmu, hE⟩ := h_2)
    refine k_ ?_
    clear k_ X_
    dsimp only at m1 m2 m3 hmu
    subst hmu
    walk_at "ms"
    cases cur with
    | none =>
      have e : pv = .none := hpv
      subst e
      refine Br.ff (by rfl) ?_
      have er : rest = [] := by
        cases rest with
        | nil => rfl
        | cons => exact hpu.elim
      subst er
      rw [List.append_nil] at hpe
      subst hpe
      walk_at "ms"
      intro b
      dsimp only
      have hfl := hE.len
      refine w_rev (vs := fv) (kn_mu (.tail _ (.head _))) (kn_mu (.head _)) (by rw [sizeLine_eq]; omega) fun d => ?_
      exact ⟨d, _, rfl, .head _, hE.rev⟩
    | some j =>
      obtain ⟨tj, e⟩ := hpv
      subst e
      refine Br.tt (by rfl) ?_
      cases rest with
      | nil => exact hpu.elim
      | cons j' r =>
        refine hide ?_
        intro X_ k_
        first | (first | (refine and4 hpu ?_; clear hpu; rintro rfl nr hnr hpu') | (refine and3 hpu ?_; clear hpu; rintro rfl nr ⟨hnr, hpu'⟩) | obtain ⟨rfl, nr, hnr, hpu'⟩ := hpu)
        refine k_ ?_
        clear k_ X_
        walk_at "ms"
        walk_at "ml_append"
        walk_at "ms"
        have hfl := hE.len
        have hpl := congrArg List.length hpe
        rw [List.length_append] at hpl
        refine w_append Up.head (by rw [sizeLine_eq]; omega) ?_
        walk_at "ms"
        walk_at "mmeth"
        walk_at "ms"
        refine w_callPure _ (fun g' h1 h2 => parent_ok G hA hT (hg.mono h1) hnr) ?_
        intro v hv
        walk_at "ms"
        refine ⟨r.length, by rw [← hn]; exact Nat.lt_succ_self _, done ++ [j], r, nr.parent, v, fv ++ [.int j tj], by rw [hpe]; simp, rfl, hpu', hv, ?_, ?_, ?_, rfl, hE.snoc ⟨tj, rfl⟩⟩
        · walk_at "ml0"
        · walk_at "ml0"
        · walk_at "ml0"
end
end Mine
end -- F14

section -- F15
open PySem PySem.W PySem.Calls PyProof.Rows PySem.Builtin
namespace Mine
section
variable {prog : Program} {w : World} {O : Heap} {A : Around} {P : Params} {mg mb : Str → Option Value} {g : Kn}

/-- the namespaces of a node -/
noncomputable def NsAt (t : List NR) (i : Nat) (us : List (Str × Str)) : Prop := ∃ nr, t[i]? = some nr ∧ Each (fun k p => ∃ nk, t[k]? = some nk ∧ nk.name = p.1 ∧ nk.value = p.2) nr.nss us
theorem len_foldS (us : List (Str × Str)) (ps : List (Str × Str)) : (us.foldl stepS ps).length ≤ ps.length + us.length := by
  induction us generalizing ps with
  | nil => exact Nat.le_refl _
  | cons p us ih =>
    have h1 := ih (stepS ps p)
    have h2 := len_stepS ps p
    rw [List.foldl_cons, List.length_cons]; omega

theorem within_ok (G : Gnd (hk.heap_1 P) O mg mb) (hA : Amb A 3) {T : TA} {t : List NR} (hT : TreeIs T t) (hg : inG g (treeLed T)) {i : Nat} {ti : Tok} {sd : Addr} {kvs : List (Str × Value)} {ps us : List (Str × Str)} (hs : g sd (.dct kvs)) (hD : DctIs ps kvs) (hN : NsAt t i us) (hz : ps.length ≤ 100) (hz2 : us.length ≤ 100) :
    Calls prog w O A (.ref 121) [.ref T.x, .int i ti, .ref sd] g [] (fun v mu' => ∃ b kvs', v = .ref b ∧ (b, .dct kvs') ∈ mu' ∧ DctIs (us.foldl stepS ps) kvs') := by
  refine Calls.fn (n := 2) [("scope", .ref sd), ("element", .int i ti), ("tree", .ref T.x)] G hA (by k_is) (by k_is) (fun _ _ => BindsTo.of_eq rfl) (locs rfl) ?_ (by rfl) (by rfl) (by rfl) (by decide)
  intro L s env c hA G
  have hh : c.A.handled = none := hA.handled
  have k1 := tg1 hg
  have k2 := tg2 hg
  obtain ⟨nr, hnr, hE⟩ := hN
  have hl0 := hD.len
  walk_at "ms"
  refine w_dctOf G (kn_g hs) (by omega) fun fd => ?_
  walk_at "ms"
  walk_at "mmeth"
  walk_at "ms"
  refine w_call (mu := []) _ (fun g' h1 h2 => namespaces_ok G hA hT (hg.mono h1) hnr) ?_
  rintro _ _ h_2
  refine hide ?_
  intro X_ k_
  first | (refine ex2 h_2 ?_; clear h_2; rintro nl ns hr_; first | (refine and3 hr_ ?_; clear hr_; rintro rfl rfl hns) | obtain ⟨rfl, rfl, hns⟩ := hr_) | (refine ex1 h_2 ?_; clear h_2; rintro nl hr_; first | (refine and4 hr_ ?_; clear hr_; rintro ns rfl rfl hns) | (refine and3 hr_ ?_; clear hr_; rintro ns rfl ⟨rfl, hns⟩) | obtain ⟨ns, rfl, rfl, hns⟩ := hr_) | (first | (refine and5 h_2 ?_; clear h_2; rintro nl ns rfl rfl hns) | (refine and4 h_2 ?_; clear h_2; rintro nl ns rfl ⟨rfl, hns⟩) | (refine and3 h_2 ?_; clear h_2; rintro nl ns ⟨rfl, rfl, hns⟩) | obtain ⟨nl, ns, rfl, rfl, hns⟩ := h_2)
  refine k_ ?_
  clear k_ X_
  refine w_freeze (fr := [(nl, .lst ns)]) (mu := [(fd, .dct kvs)]) ?_
  refine w_forSrc (src_lst hh (.inr (.head _)) fun _ => dr_name) (fun j st => ∃ kvs' pre, st.mu = pre ++ [(fd, .dct kvs')] ∧ DctIs ((us.take j).foldl stepS ps) kvs' ∧ st.m "tree" = some (.ref T.x) ∧ st.m "found" = some (.ref fd)) ?h0 ?turn ?fin
  case h0 => exact ⟨kvs, [], rfl, hD, by walk_at "ml0", by walk_at "ml0"⟩
  case turn =>
    rintro j v ⟨m, mu⟩ g' hj hv h_6 hg'
    refine hide ?_
    intro X_ k_
    first | (refine ex5 h_6 ?_; clear h_6; rintro kvs' pre hmu hD' m1 m2) | (refine ex4 h_6 ?_; clear h_6; rintro kvs' pre hmu hD' hr_; first | obtain ⟨m1, m2⟩ := hr_) | (refine ex3 h_6 ?_; clear h_6; rintro kvs' pre hmu hr_; first | (refine and3 hr_ ?_; clear hr_; rintro hD' m1 m2) | obtain ⟨hD', m1, m2⟩ := hr_) | (refine ex2 h_6 ?_; clear h_6; rintro kvs' pre hr_; first | (refine and4 hr_ ?_; clear hr_; rintro hmu hD' m1 m2) | (refine and3 hr_ ?_; clear hr_; rintro hmu hD' ⟨m1, m2⟩) | obtain ⟨hmu, hD', m1, m2⟩ := hr_) | (refine ex1 h_6 ?_; clear h_6; rintro kvs' hr_; first | (refine and5 hr_ ?_; clear hr_; rintro pre hmu hD' m1 m2) | (refine and4 hr_ ?_; clear hr_; rintro pre hmu hD' ⟨m1, m2⟩) | (refine and3 hr_ ?_; clear hr_; rintro pre hmu ⟨hD', m1, m2⟩) | obtain ⟨pre, hmu, hD', m1, m2⟩ := hr_) | (first | (refine and6 h_6 ?_; clear h_6; rintro kvs' pre hmu hD' m1 m2) | (refine and5 h_6 ?_; clear h_6; rintro kvs' pre hmu hD' ⟨m1, m2⟩) | (refine and4 h_6 ?_; clear h_6; rintro kvs' pre hmu ⟨hD', m1, m2⟩) | (refine and3 h_6 ?_; clear h_6; rintro kvs' pre ⟨hmu, hD', m1, m2⟩) | obtain ⟨kvs', pre, hmu, hD', m1, m2⟩ := h_6)
    refine k_ ?_
    clear k_ X_
    dsimp only at hmu m1 m2
    subst hmu
    refine hide ?_
    intro X_ k_
    first | (refine ex3 (hns.get' hv) ?_; rintro k hk tk rfl) | (refine ex2 (hns.get' hv) ?_; rintro k hk hr_; first | obtain ⟨tk, rfl⟩ := hr_) | (refine ex1 (hns.get' hv) ?_; rintro k hr_; first | (refine and3 hr_ ?_; clear hr_; rintro hk tk rfl) | obtain ⟨hk, tk, rfl⟩ := hr_) | (first | (refine and4 (hns.get' hv) ?_; rintro k hk tk rfl) | (refine and3 (hns.get' hv) ?_; rintro k hk ⟨tk, rfl⟩) | obtain ⟨k, hk, tk, rfl⟩ := (hns.get' hv))
    refine k_ ?_
    clear k_ X_
    refine hide ?_
    intro X_ k_
    first | (refine ex5 (hE.get hk) ?_; rintro p hpj nk hnk e1 e2) | (refine ex4 (hE.get hk) ?_; rintro p hpj nk hnk hr_; first | obtain ⟨e1, e2⟩ := hr_) | (refine ex3 (hE.get hk) ?_; rintro p hpj nk hr_; first | (refine and3 hr_ ?_; clear hr_; rintro hnk e1 e2) | obtain ⟨hnk, e1, e2⟩ := hr_) | (refine ex2 (hE.get hk) ?_; rintro p hpj hr_; first | (refine and4 hr_ ?_; clear hr_; rintro nk hnk e1 e2) | (refine and3 hr_ ?_; clear hr_; rintro nk hnk ⟨e1, e2⟩) | obtain ⟨nk, hnk, e1, e2⟩ := hr_) | (refine ex1 (hE.get hk) ?_; rintro p hr_; first | (refine and5 hr_ ?_; clear hr_; rintro hpj nk hnk e1 e2) | (refine and4 hr_ ?_; clear hr_; rintro hpj nk hnk ⟨e1, e2⟩) | (refine and3 hr_ ?_; clear hr_; rintro hpj nk ⟨hnk, e1, e2⟩) | obtain ⟨hpj, nk, hnk, e1, e2⟩ := hr_) | (first | (refine and6 (hE.get hk) ?_; rintro p hpj nk hnk e1 e2) | (refine and5 (hE.get hk) ?_; rintro p hpj nk hnk ⟨e1, e2⟩) | (refine and4 (hE.get hk) ?_; rintro p hpj nk ⟨hnk, e1, e2⟩) | (refine and3 (hE.get hk) ?_; rintro p hpj ⟨nk, hnk, e1, e2⟩) | obtain ⟨p, hpj, nk, hnk, e1, e2⟩ := (hE.get hk))
    refine k_ ?_
    clear k_ X_
    have hgT : inG g' (treeLed T) := fun q hq => hg' _ _ (.inl (hg q hq))
    have k1' := tg1 hgT
    have k2' := tg2 hgT
    have est : (us.take (j + 1)).foldl stepS ps = stepS ((us.take j).foldl stepS ps) p := by
      rw [List.take_add_one, hpj, List.foldl_append]; rfl
    have hlj := len_foldS (us.take j) ps
    have hlt : (us.take j).length ≤ us.length := List.length_take_le' _ _
    have hlk := hD'.len
    walk_at "ms"
    refine w_assignSwap (names := ["prefix", "uri"]) ?_ (by rfl) (by rfl)
    walk_at "ms"
    walk_at "mmeth"
    walk_at "ms"
    refine w_callPure _ (fun g'' h1 h2 => name_ok G hA hT (hgT.mono h1) hnk) ?_
    rintro _ ⟨tn, rfl⟩
    walk_at "ms"
    walk_at "mmeth"
    walk_at "ms"
    refine w_callPure _ (fun g'' h1 h2 => value_ok G hA hT (hgT.mono h1) hnk) ?_
    rintro _ ⟨tv, rfl⟩
    rw [e1, e2]
    walk_at "ms"
    rename_i tt
    refine Br.of (fun hu => ?_) (fun hu => ?_)
    · walk_at "ms"
      refine w_setDct (Up.tail (Up.appR Up.head pre)) (by omega) ?_
      walk_at "ms"
      refine ⟨_, _ :: pre, rfl, ?_, ?_, ?_⟩
      · rw [est]
        unfold stepS
        rw [if_neg (by simpa using hu)]
        exact hD'.put ⟨_, rfl⟩
      · walk_at "ml0"
      · walk_at "ml0"
    · have hu' : p.2 = "" := by simpa using hu
      have key : (us.take (j + 1)).foldl stepS ps = del2 ((us.take j).foldl stepS ps) p.1 := by
        rw [est]
        unfold stepS
        rw [if_pos hu']
      walk_at "ms"
      refine w_inDct (kn_mu (.tail _ (List.mem_append_right pre (.head _)))) ?_
      rw [hD'.isSome]
      walk_at "ms"
      cases e : look ((us.take j).foldl stepS ps) p.1 with
      | none =>
        refine Br.ff (by rfl) ?_
        walk_at "ms"
        refine ⟨kvs', _ :: pre, rfl, ?_, ?_, ?_⟩
        · rw [key, del2_none e]; exact hD'
        · walk_at "ml0"
        · walk_at "ml0"
      | some y =>
        refine Br.tt (by rfl) ?_
        walk_at "ms"
        walk_at "md_pop"
        walk_at "ms"
        obtain ⟨v', e', _⟩ := hD'.some e
        refine w_popDct (rest := []) (Up.tail (Up.appR Up.head pre)) (.inl rfl) e' (by omega) ?_
        walk_at "ms"
        refine ⟨_, _ :: pre, rfl, ?_, ?_, ?_⟩
        · rw [key]; exact hD'.del _
        · walk_at "ml0"
        · walk_at "ml0"
  case fin =>
    rintro ⟨m, mu⟩ h_1
    refine hide ?_
    intro X_ k_
    first | (refine ex5 h_1 ?_; clear h_1; rintro kvs' pre hmu hD' m1 m2) | (refine ex4 h_1 ?_; clear h_1; rintro kvs' pre hmu hD' hr_; first | obtain ⟨m1, m2⟩ := hr_) | (refine ex3 h_1 ?_; clear h_1; rintro kvs' pre hmu hr_; first | (refine and3 hr_ ?_; clear hr_; rintro hD' m1 m2) | obtain ⟨hD', m1, m2⟩ := hr_) | (refine ex2 h_1 ?_; clear h_1; rintro kvs' pre hr_; first | (refine and4 hr_ ?_; clear hr_; rintro hmu hD' m1 m2) | (refine and3 hr_ ?_; clear hr_; rintro hmu hD' ⟨m1, m2⟩) | obtain ⟨hmu, hD', m1, m2⟩ := hr_) | (refine ex1 h_1 ?_; clear h_1; rintro kvs' hr_; first | (refine and5 hr_ ?_; clear hr_; rintro pre hmu hD' m1 m2) | (refine and4 hr_ ?_; clear hr_; rintro pre hmu hD' ⟨m1, m2⟩) | (refine and3 hr_ ?_; clear hr_; rintro pre hmu ⟨hD', m1, m2⟩) | obtain ⟨pre, hmu, hD', m1, m2⟩ := hr_) | (first | (refine and6 h_1 ?_; clear h_1; rintro kvs' pre hmu hD' m1 m2) | (refine and5 h_1 ?_; clear h_1; rintro kvs' pre hmu hD' ⟨m1, m2⟩) | (refine and4 h_1 ?_; clear h_1; rintro kvs' pre hmu ⟨hD', m1, m2⟩) | (refine and3 h_1 ?_; clear h_1; rintro kvs' pre ⟨hmu, hD', m1, m2⟩) | obtain ⟨kvs', pre, hmu, hD', m1, m2⟩ := h_1)
    refine k_ ?_
    clear k_ X_
    dsimp only at hmu m1 m2
    subst hmu
    walk_at "ms"
    rw [← hns.len, hE.len, List.take_length] at hD'
    exact ⟨fd, kvs', rfl, .tail _ (List.mem_append_right pre (.head _)), hD'⟩
end
end Mine
end -- F15

section -- F16
open PySem PySem.W PySem.Calls PyProof.Rows PySem.Builtin
namespace Mine
section
variable {prog : Program} {w : World} {O : Heap} {A : Around} {P : Params} {mg mb : Str → Option Value} {g : Kn}

noncomputable def foldSS (uss : List (List (Str × Str))) (ps : List (Str × Str)) : List (Str × Str) := uss.foldl (fun ps us => us.foldl stepS ps) ps
theorem len_foldSS (uss : List (List (Str × Str))) (h : ∀ us ∈ uss, us.length ≤ 10) (ps : List (Str × Str)) : (foldSS uss ps).length ≤ ps.length + 10 * uss.length := by
  unfold foldSS
  induction uss generalizing ps with
  | nil => simp
  | cons us uss ih =>
    have h1 := ih (fun u hu => h u (.tail _ hu)) (us.foldl stepS ps)
    have h2 := len_foldS us ps
    have h3 := h us (.head _)
    rw [List.foldl_cons, List.length_cons]; omega

theorem merged_one (k : Str) (v : Value) : merged [] [(k, v)] = [(k, v)] := rfl
theorem scope_ok (G : Gnd (hk.heap_1 P) O mg mb) (hA : Amb A 4) {T : TA} {t : List NR} (hT : TreeIs T t) (hg : inG g (treeLed T)) {i : Nat} {ti : Tok} {path : List Nat} {uss : List (List (Str × Str))} (hp : PathUp t (some i) path) (hN : Each (NsAt t) path.reverse uss) (hz : path.length ≤ 50) (hz2 : ∀ us ∈ uss, us.length ≤ 10) :
    Calls prog w O A (.ref 67) [.ref T.x, .int i ti] g [] (fun v mu' => ∃ b X kvs', v = .ref b ∧ (b, .dct kvs') ∈ mu' ∧ DctIs (foldSS uss [("xml", X)]) kvs') := by
  refine Calls.fn (n := 3) [("element", .int i ti), ("tree", .ref T.x)] G hA (by k_is) (by k_is) (fun _ _ => BindsTo.of_eq rfl) (locs rfl) ?_ (by rfl) (by rfl) (by rfl) (by decide)
  intro L s env c hA G
  have hh : c.A.handled = none := hA.handled
  walk_at "ms"
  walk_at "mdict"
  intro fd
  walk_at "ms"
  refine ⟨[("xml", _)], [], ⟨⟨_, rfl⟩, rfl, trivial⟩, rfl, ?_⟩
  rw [merged_one]
  have hx0 : ∀ (X : Str) (t : Tok), DctIs [("xml", X)] [(Str.ofString "xml", Value.str X t)] := fun X t => ⟨⟨rfl, t, rfl⟩, trivial⟩
  walk_at "ms"
  refine w_call (mu := []) _ (fun g' h1 h2 => lines_ok G hA.le hT (hg.mono h1) hp (by omega)) ?_
  rintro _ mu₁ h_2
  refine hide ?_
  intro X_ k_
  first | (refine ex2 h_2 ?_; clear h_2; rintro pl pv hr_; first | (refine and3 hr_ ?_; clear hr_; rintro rfl hpl hPV) | obtain ⟨rfl, hpl, hPV⟩ := hr_) | (refine ex1 h_2 ?_; clear h_2; rintro pl hr_; first | (refine and4 hr_ ?_; clear hr_; rintro pv rfl hpl hPV) | (refine and3 hr_ ?_; clear hr_; rintro pv rfl ⟨hpl, hPV⟩) | obtain ⟨pv, rfl, hpl, hPV⟩ := hr_) | (first | (refine and5 h_2 ?_; clear h_2; rintro pl pv rfl hpl hPV) | (refine and4 h_2 ?_; clear h_2; rintro pl pv rfl ⟨hpl, hPV⟩) | (refine and3 h_2 ?_; clear h_2; rintro pl pv ⟨rfl, hpl, hPV⟩) | obtain ⟨pl, pv, rfl, hpl, hPV⟩ := h_2)
  refine k_ ?_
  clear k_ X_
  refine w_freeze (fr := mu₁) ?_
  have hulen := hN.len
  refine w_forSrc (src_lst hh (.inr hpl) fun _ => dr_name) (fun j st => ∃ X kvs pre, st.mu = pre ++ [(fd, .dct kvs)] ∧ DctIs (foldSS (uss.take j) [("xml", X)]) kvs ∧ st.m "tree" = some (.ref T.x) ∧ st.m "found" = some (.ref fd)) ?h0 ?turn ?fin
  case h0 =>
    refine ⟨_, _, [], rfl, hx0 _ _, ?_, ?_⟩
    · walk_at "ml0"
    · walk_at "ml0"
  case turn =>
    rintro a v ⟨m, mu⟩ g' ha hv h_6 hg'
    refine hide ?_
    intro X_ k_
    first | (refine ex6 h_6 ?_; clear h_6; rintro X kvs pre hmu hD m1 m2) | (refine ex5 h_6 ?_; clear h_6; rintro X kvs pre hmu hD hr_; first | obtain ⟨m1, m2⟩ := hr_) | (refine ex4 h_6 ?_; clear h_6; rintro X kvs pre hmu hr_; first | (refine and3 hr_ ?_; clear hr_; rintro hD m1 m2) | obtain ⟨hD, m1, m2⟩ := hr_) | (refine ex3 h_6 ?_; clear h_6; rintro X kvs pre hr_; first | (refine and4 hr_ ?_; clear hr_; rintro hmu hD m1 m2) | (refine and3 hr_ ?_; clear hr_; rintro hmu hD ⟨m1, m2⟩) | obtain ⟨hmu, hD, m1, m2⟩ := hr_) | (refine ex2 h_6 ?_; clear h_6; rintro X kvs hr_; first | (refine and5 hr_ ?_; clear hr_; rintro pre hmu hD m1 m2) | (refine and4 hr_ ?_; clear hr_; rintro pre hmu hD ⟨m1, m2⟩) | (refine and3 hr_ ?_; clear hr_; rintro pre hmu ⟨hD, m1, m2⟩) | obtain ⟨pre, hmu, hD, m1, m2⟩ := hr_) | (refine ex1 h_6 ?_; clear h_6; rintro X hr_; first | (refine and6 hr_ ?_; clear hr_; rintro kvs pre hmu hD m1 m2) | (refine and5 hr_ ?_; clear hr_; rintro kvs pre hmu hD ⟨m1, m2⟩) | (refine and4 hr_ ?_; clear hr_; rintro kvs pre hmu ⟨hD, m1, m2⟩) | (refine and3 hr_ ?_; clear hr_; rintro kvs pre ⟨hmu, hD, m1, m2⟩) | obtain ⟨kvs, pre, hmu, hD, m1, m2⟩ := hr_) | (first | (refine and7 h_6 ?_; clear h_6; rintro X kvs pre hmu hD m1 m2) | (refine and6 h_6 ?_; clear h_6; rintro X kvs pre hmu hD ⟨m1, m2⟩) | (refine and5 h_6 ?_; clear h_6; rintro X kvs pre hmu ⟨hD, m1, m2⟩) | (refine and4 h_6 ?_; clear h_6; rintro X kvs pre ⟨hmu, hD, m1, m2⟩) | (refine and3 h_6 ?_; clear h_6; rintro X kvs ⟨pre, hmu, hD, m1, m2⟩) | obtain ⟨X, kvs, pre, hmu, hD, m1, m2⟩ := h_6)
    refine k_ ?_
    clear k_ X_
    dsimp only at hmu m1 m2
    subst hmu
    refine hide ?_
    intro X_ k_
    first | (refine ex3 (hPV.get' hv) ?_; rintro nd hnd tnd rfl) | (refine ex2 (hPV.get' hv) ?_; rintro nd hnd hr_; first | obtain ⟨tnd, rfl⟩ := hr_) | (refine ex1 (hPV.get' hv) ?_; rintro nd hr_; first | (refine and3 hr_ ?_; clear hr_; rintro hnd tnd rfl) | obtain ⟨hnd, tnd, rfl⟩ := hr_) | (first | (refine and4 (hPV.get' hv) ?_; rintro nd hnd tnd rfl) | (refine and3 (hPV.get' hv) ?_; rintro nd hnd ⟨tnd, rfl⟩) | obtain ⟨nd, hnd, tnd, rfl⟩ := (hPV.get' hv))
    refine k_ ?_
    clear k_ X_
    refine hide ?_
    intro X_ k_
    first | (refine ex4 (hN.get hnd) ?_; rintro us hus nr hnr hE) | (refine ex3 (hN.get hnd) ?_; rintro us hus nr hr_; first | obtain ⟨hnr, hE⟩ := hr_) | (refine ex2 (hN.get hnd) ?_; rintro us hus hr_; first | (refine and3 hr_ ?_; clear hr_; rintro nr hnr hE) | obtain ⟨nr, hnr, hE⟩ := hr_) | (refine ex1 (hN.get hnd) ?_; rintro us hr_; first | (refine and4 hr_ ?_; clear hr_; rintro hus nr hnr hE) | (refine and3 hr_ ?_; clear hr_; rintro hus nr ⟨hnr, hE⟩) | obtain ⟨hus, nr, hnr, hE⟩ := hr_) | (first | (refine and5 (hN.get hnd) ?_; rintro us hus nr hnr hE) | (refine and4 (hN.get hnd) ?_; rintro us hus nr ⟨hnr, hE⟩) | (refine and3 (hN.get hnd) ?_; rintro us hus ⟨nr, hnr, hE⟩) | obtain ⟨us, hus, nr, hnr, hE⟩ := (hN.get hnd))
    refine k_ ?_
    clear k_ X_
    have hgT : inG g' (treeLed T) := fun q hq => hg' _ _ (.inl (hg q hq))
    have k1 := tg1 hgT
    have k2 := tg2 hgT
    have hul := hz2 us (List.mem_of_getElem? hus)
    have hl1 := len_foldSS (uss.take a) (fun u hu => hz2 u (List.mem_of_mem_take hu)) [("xml", X)]
    have hl2 : (uss.take a).length ≤ uss.length := List.length_take_le' _ _
    rw [List.length_reverse] at hulen
    have hl3 : ([((Str.ofString "xml"), X)] : List (Str × Str)).length = 1 := rfl
    have hfs : foldSS (uss.take (a + 1)) [("xml", X)] = us.foldl stepS (foldSS (uss.take a) [("xml", X)]) := by
      unfold foldSS
      rw [List.take_add_one, hus, List.foldl_append]; rfl
    generalize hps : foldSS (uss.take a) [(Str.ofString "xml", X)] = ps at hD hl1 hfs
    walk_at "ms"
    walk_at "mmeth"
    walk_at "ms"
    refine w_call (mu := []) _ (fun g'' h1 h2 => namespaces_ok G hA.le hT (hgT.mono h1) hnr) ?_
    rintro _ _ h_2
    refine hide ?_
    intro X_ k_
    first | (refine ex2 h_2 ?_; clear h_2; rintro nl ns hr_; first | (refine and3 hr_ ?_; clear hr_; rintro rfl rfl hns) | obtain ⟨rfl, rfl, hns⟩ := hr_) | (refine ex1 h_2 ?_; clear h_2; rintro nl hr_; first | (refine and4 hr_ ?_; clear hr_; rintro ns rfl rfl hns) | (refine and3 hr_ ?_; clear hr_; rintro ns rfl ⟨rfl, hns⟩) | obtain ⟨ns, rfl, rfl, hns⟩ := hr_) | (first | (refine and5 h_2 ?_; clear h_2; rintro nl ns rfl rfl hns) | (refine and4 h_2 ?_; clear h_2; rintro nl ns rfl ⟨rfl, hns⟩) | (refine and3 h_2 ?_; clear h_2; rintro nl ns ⟨rfl, rfl, hns⟩) | obtain ⟨nl, ns, rfl, rfl, hns⟩ := h_2)
    refine k_ ?_
    clear k_ X_
    refine w_freeze (fr := [(nl, .lst ns)]) (mu := pre ++ [(fd, .dct kvs)]) ?_
    refine w_forSrc (src_lst hh (.inr (.head _)) fun _ => dr_name) (fun j st => ∃ kvs' pre, st.mu = pre ++ [(fd, .dct kvs')] ∧ DctIs ((us.take j).foldl stepS ps) kvs' ∧ st.m "tree" = some (.ref T.x) ∧ st.m "found" = some (.ref fd)) ?h0 ?turn2 ?fin2
    case h0 => exact ⟨kvs, pre, rfl, hD, by walk_at "ml0", by walk_at "ml0"⟩
    case turn2 =>
      clear m1 m2
      rintro j v ⟨m, mu⟩ g'' hj hv h_6 hg''
      refine hide ?_
      intro X_ k_
      first | (refine ex5 h_6 ?_; clear h_6; rintro kvs' pre hmu hD' m1 m2) | (refine ex4 h_6 ?_; clear h_6; rintro kvs' pre hmu hD' hr_; first | obtain ⟨m1, m2⟩ := hr_) | (refine ex3 h_6 ?_; clear h_6; rintro kvs' pre hmu hr_; first | (refine and3 hr_ ?_; clear hr_; rintro hD' m1 m2) | obtain ⟨hD', m1, m2⟩ := hr_) | (refine ex2 h_6 ?_; clear h_6; rintro kvs' pre hr_; first | (refine and4 hr_ ?_; clear hr_; rintro hmu hD' m1 m2) | (refine and3 hr_ ?_; clear hr_; rintro hmu hD' ⟨m1, m2⟩) | obtain ⟨hmu, hD', m1, m2⟩ := hr_) | (refine ex1 h_6 ?_; clear h_6; rintro kvs' hr_; first | (refine and5 hr_ ?_; clear hr_; rintro pre hmu hD' m1 m2) | (refine and4 hr_ ?_; clear hr_; rintro pre hmu hD' ⟨m1, m2⟩) | (refine and3 hr_ ?_; clear hr_; rintro pre hmu ⟨hD', m1, m2⟩) | obtain ⟨pre, hmu, hD', m1, m2⟩ := hr_) | (first | (refine and6 h_6 ?_; clear h_6; rintro kvs' pre hmu hD' m1 m2) | (refine and5 h_6 ?_; clear h_6; rintro kvs' pre hmu hD' ⟨m1, m2⟩) | (refine and4 h_6 ?_; clear h_6; rintro kvs' pre hmu ⟨hD', m1, m2⟩) | (refine and3 h_6 ?_; clear h_6; rintro kvs' pre ⟨hmu, hD', m1, m2⟩) | obtain ⟨kvs', pre, hmu, hD', m1, m2⟩ := h_6)
      refine k_ ?_
      clear k_ X_
      dsimp only at hmu m1 m2
      subst hmu
      refine hide ?_
      intro X_ k_
      first | (refine ex3 (hns.get' hv) ?_; rintro k hk tk rfl) | (refine ex2 (hns.get' hv) ?_; rintro k hk hr_; first | obtain ⟨tk, rfl⟩ := hr_) | (refine ex1 (hns.get' hv) ?_; rintro k hr_; first | (refine and3 hr_ ?_; clear hr_; rintro hk tk rfl) | obtain ⟨hk, tk, rfl⟩ := hr_) | (first | (refine and4 (hns.get' hv) ?_; rintro k hk tk rfl) | (refine and3 (hns.get' hv) ?_; rintro k hk ⟨tk, rfl⟩) | obtain ⟨k, hk, tk, rfl⟩ := (hns.get' hv))
      refine k_ ?_
      clear k_ X_
      refine hide ?_
      intro X_ k_
      first | (refine ex5 (hE.get hk) ?_; rintro p hpj nk hnk e1 e2) | (refine ex4 (hE.get hk) ?_; rintro p hpj nk hnk hr_; first | obtain ⟨e1, e2⟩ := hr_) | (refine ex3 (hE.get hk) ?_; rintro p hpj nk hr_; first | (refine and3 hr_ ?_; clear hr_; rintro hnk e1 e2) | obtain ⟨hnk, e1, e2⟩ := hr_) | (refine ex2 (hE.get hk) ?_; rintro p hpj hr_; first | (refine and4 hr_ ?_; clear hr_; rintro nk hnk e1 e2) | (refine and3 hr_ ?_; clear hr_; rintro nk hnk ⟨e1, e2⟩) | obtain ⟨nk, hnk, e1, e2⟩ := hr_) | (refine ex1 (hE.get hk) ?_; rintro p hr_; first | (refine and5 hr_ ?_; clear hr_; rintro hpj nk hnk e1 e2) | (refine and4 hr_ ?_; clear hr_; rintro hpj nk hnk ⟨e1, e2⟩) | (refine and3 hr_ ?_; clear hr_; rintro hpj nk ⟨hnk, e1, e2⟩) | obtain ⟨hpj, nk, hnk, e1, e2⟩ := hr_) | (first | (refine and6 (hE.get hk) ?_; rintro p hpj nk hnk e1 e2) | (refine and5 (hE.get hk) ?_; rintro p hpj nk hnk ⟨e1, e2⟩) | (refine and4 (hE.get hk) ?_; rintro p hpj nk ⟨hnk, e1, e2⟩) | (refine and3 (hE.get hk) ?_; rintro p hpj ⟨nk, hnk, e1, e2⟩) | obtain ⟨p, hpj, nk, hnk, e1, e2⟩ := (hE.get hk))
      refine k_ ?_
      clear k_ X_
      have hgT2 : inG g'' (treeLed T) := fun q hq => hg'' _ _ (.inl (hgT q hq))
      have k1' := tg1 hgT2
      have k2' := tg2 hgT2
      have est : (us.take (j + 1)).foldl stepS ps = stepS ((us.take j).foldl stepS ps) p := by
        rw [List.take_add_one, hpj, List.foldl_append]; rfl
      have hlj := len_foldS (us.take j) ps
      have hlt : (us.take j).length ≤ us.length := List.length_take_le' _ _
      have hlk := hD'.len
      walk_at "ms"
      refine w_assignSwap (names := ["prefix", "uri"]) ?_ (by rfl) (by rfl)
      walk_at "ms"
      walk_at "mmeth"
      walk_at "ms"
      refine w_callPure _ (fun g'' h1 h2 => name_ok G hA.le hT (hgT2.mono h1) hnk) ?_
      rintro _ ⟨tn, rfl⟩
      walk_at "ms"
      walk_at "mmeth"
      walk_at "ms"
      refine w_callPure _ (fun g'' h1 h2 => value_ok G hA.le hT (hgT2.mono h1) hnk) ?_
      rintro _ ⟨tv, rfl⟩
      rw [e1, e2]
      walk_at "ms"
      refine Br.of (fun hu => ?_) (fun hu => ?_)
      · walk_at "ms"
        refine w_setDct (Up.tail (Up.appR Up.head pre)) (by omega) ?_
        walk_at "ms"
        refine ⟨_, _ :: pre, rfl, ?_, ?_, ?_⟩
        · rw [est]
          unfold stepS
          rw [if_neg (by simpa using hu)]
          exact hD'.put ⟨_, rfl⟩
        · walk_at "ml0"
        · walk_at "ml0"
      · have hu' : p.2 = "" := by simpa using hu
        have key : (us.take (j + 1)).foldl stepS ps = del2 ((us.take j).foldl stepS ps) p.1 := by
          rw [est]
          unfold stepS
          rw [if_pos hu']
        walk_at "ms"
        refine w_inDct (kn_mu (.tail _ (List.mem_append_right pre (.head _)))) ?_
        rw [hD'.isSome]
        walk_at "ms"
        cases e : look ((us.take j).foldl stepS ps) p.1 with
        | none =>
          refine Br.ff (by rfl) ?_
          walk_at "ms"
          refine ⟨kvs', _ :: pre, rfl, ?_, ?_, ?_⟩
          · rw [key, del2_none e]; exact hD'
          · walk_at "ml0"
          · walk_at "ml0"
        | some y =>
          refine Br.tt (by rfl) ?_
          walk_at "ms"
          walk_at "md_pop"
          walk_at "ms"
          obtain ⟨v', e', _⟩ := hD'.some e
          refine w_popDct (rest := []) (Up.tail (Up.appR Up.head pre)) (.inl rfl) e' (by omega) ?_
          walk_at "ms"
          refine ⟨_, _ :: pre, rfl, ?_, ?_, ?_⟩
          · rw [key]; exact hD'.del _
          · walk_at "ml0"
          · walk_at "ml0"
    case fin2 =>
      rintro ⟨m, mu⟩ h_1
      refine hide ?_
      intro X_ k_
      first | (refine ex5 h_1 ?_; clear h_1; rintro kvs' pre hmu hD' m1 m2) | (refine ex4 h_1 ?_; clear h_1; rintro kvs' pre hmu hD' hr_; first | obtain ⟨m1, m2⟩ := hr_) | (refine ex3 h_1 ?_; clear h_1; rintro kvs' pre hmu hr_; first | (refine and3 hr_ ?_; clear hr_; rintro hD' m1 m2) | obtain ⟨hD', m1, m2⟩ := hr_) | (refine ex2 h_1 ?_; clear h_1; rintro kvs' pre hr_; first | (refine and4 hr_ ?_; clear hr_; rintro hmu hD' m1 m2) | (refine and3 hr_ ?_; clear hr_; rintro hmu hD' ⟨m1, m2⟩) | obtain ⟨hmu, hD', m1, m2⟩ := hr_) | (refine ex1 h_1 ?_; clear h_1; rintro kvs' hr_; first | (refine and5 hr_ ?_; clear hr_; rintro pre hmu hD' m1 m2) | (refine and4 hr_ ?_; clear hr_; rintro pre hmu hD' ⟨m1, m2⟩) | (refine and3 hr_ ?_; clear hr_; rintro pre hmu ⟨hD', m1, m2⟩) | obtain ⟨pre, hmu, hD', m1, m2⟩ := hr_) | (first | (refine and6 h_1 ?_; clear h_1; rintro kvs' pre hmu hD' m1 m2) | (refine and5 h_1 ?_; clear h_1; rintro kvs' pre hmu hD' ⟨m1, m2⟩) | (refine and4 h_1 ?_; clear h_1; rintro kvs' pre hmu ⟨hD', m1, m2⟩) | (refine and3 h_1 ?_; clear h_1; rintro kvs' pre ⟨hmu, hD', m1, m2⟩) | obtain ⟨kvs', pre, hmu, hD', m1, m2⟩ := h_1)
      refine k_ ?_
      clear k_ X_
      dsimp only at hmu m1 m2
      subst hmu
      rw [← hns.len, hE.len, List.take_length] at hD'
      walk_at "ms"
      refine ⟨X, kvs', _ :: pre, rfl, ?_, ?_, ?_⟩
      · rw [hfs]; exact hD'
      · walk_at "ml0"
      · walk_at "ml0"
  case fin =>
    rintro ⟨m, mu⟩ h_1
    refine hide ?_
    intro X_ k_
    first | (refine ex6 h_1 ?_; clear h_1; rintro X kvs pre hmu hD m1 m2) | (refine ex5 h_1 ?_; clear h_1; rintro X kvs pre hmu hD hr_; first | obtain ⟨m1, m2⟩ := hr_) | (refine ex4 h_1 ?_; clear h_1; rintro X kvs pre hmu hr_; first | (refine and3 hr_ ?_; clear hr_; rintro hD m1 m2) | obtain ⟨hD, m1, m2⟩ := hr_) | (refine ex3 h_1 ?_; clear h_1; rintro X kvs pre hr_; first | (refine and4 hr_ ?_; clear hr_; rintro hmu hD m1 m2) | (refine and3 hr_ ?_; clear hr_; rintro hmu hD ⟨m1, m2⟩) | obtain ⟨hmu, hD, m1, m2⟩ := hr_) | (refine ex2 h_1 ?_; clear h_1; rintro X kvs hr_; first | (refine and5 hr_ ?_; clear hr_; rintro pre hmu hD m1 m2) | (refine and4 hr_ ?_; clear hr_; rintro pre hmu hD ⟨m1, m2⟩) | (refine and3 hr_ ?_; clear hr_; rintro pre hmu ⟨hD, m1, m2⟩) | obtain ⟨pre, hmu, hD, m1, m2⟩ := hr_) | (refine ex1 h_1 ?_; clear h_1; rintro X hr_; first | (refine and6 hr_ ?_; clear hr_; rintro kvs pre hmu hD m1 m2) | (refine and5 hr_ ?_; clear hr_; rintro kvs pre hmu hD ⟨m1, m2⟩) | (refine and4 hr_ ?_; clear hr_; rintro kvs pre hmu ⟨hD, m1, m2⟩) | (refine and3 hr_ ?_; clear hr_; rintro kvs pre ⟨hmu, hD, m1, m2⟩) | obtain ⟨kvs, pre, hmu, hD, m1, m2⟩ := hr_) | (first | (refine and7 h_1 ?_; clear h_1; rintro X kvs pre hmu hD m1 m2) | (refine and6 h_1 ?_; clear h_1; rintro X kvs pre hmu hD ⟨m1, m2⟩) | (refine and5 h_1 ?_; clear h_1; rintro X kvs pre hmu ⟨hD, m1, m2⟩) | (refine and4 h_1 ?_; clear h_1; rintro X kvs pre ⟨hmu, hD, m1, m2⟩) | (refine and3 h_1 ?_; clear h_1; rintro X kvs ⟨pre, hmu, hD, m1, m2⟩) | obtain ⟨X, kvs, pre, hmu, hD, m1, m2⟩ := h_1)
    refine k_ ?_
    clear k_ X_
    dsimp only at hmu m1 m2
    subst hmu
    walk_at "ms"
    rw [← hPV.len, hulen, List.take_length] at hD
    exact ⟨fd, X, kvs, rfl, List.mem_append_right _ (List.mem_append_right pre (.head _)), hD⟩
end
end Mine
end -- F16

section -- F17
open PySem PySem.W PySem.Calls PyProof.Rows PySem.Builtin
namespace Mine
section
variable {prog : Program} {w : World} {O : Heap} {A : Around} {P : Params} {mg mb : Str → Option Value} {g : Kn}

noncomputable def toldInit (sc kn : List (Str × Str)) : Str := if (look kn "").isSome && !(look sc "").isSome then " xmlns=\"\"" else ""
noncomputable def toldStep (sc kn : List (Str × Str)) (f p : Str) : Str :=
  if p = "xml" then f else if look kn p = look sc p then f else f ++ (if p = "" then Str.ofString " xmlns" else Str.ofString " xmlns:" ++ p) ++ "=\"" ++ repl ((look sc p).getD "") valuePairs ++ "\""
noncomputable def toldNames (sc kn : List (Str × Str)) (ks : List Str) : Str := ks.foldl (toldStep sc kn) (toldInit sc kn)
structure ScB (sc : List (Str × Str)) : Prop where
  len : sc.length ≤ 20
  key : ∀ p ∈ sc, p.1.length ≤ 10
  val : ∀ p u, look sc p = some u → p ≠ "xml" → ROk u valuePairs = true ∧ (repl u valuePairs).length ≤ 100

theorem look_mem {ps : List (Str × Str)} {k : Str} (h : k ∈ ps.map (·.1)) : ∃ u, look ps k = some u := by
  obtain ⟨p, hp, rfl⟩ := List.mem_map.mp h
  unfold look
  cases e : ps.find? (fun q => decide (q.1 = p.1)) with
  | none =>
    rw [List.find?_eq_none] at e
    exact absurd (decide_eq_true rfl) (e p hp)
  | some q => exact ⟨q.2, rfl⟩
theorem toldStep_len {sc kn' : List (Str × Str)} (hB : ScB sc) {f p : Str} (hp : p ∈ sc.map (·.1)) : (toldStep sc kn' f p).length ≤ f.length + 150 := by
  obtain ⟨u, hu⟩ := look_mem hp
  obtain ⟨q, hq, rfl⟩ := List.mem_map.mp hp
  have h1 := hB.key q hq
  unfold toldStep
  split
  · omega
  · split
    · omega
    · rename_i hx _
      have h2 := (hB.val _ _ hu hx).2
      rw [hu]
      have e1 : (Str.ofString " xmlns").length = 6 := by decide +kernel
      have e2 : (Str.ofString " xmlns:").length = 7 := by decide +kernel
      have e3 : (Str.ofString "=\"").length = 2 := by decide +kernel
      have e4 : (Str.ofString "\"").length = 1 := by decide +kernel
      have e5 : (if q.1 = "" then Str.ofString " xmlns" else Str.ofString " xmlns:" ++ q.1).length ≤ 17 := by
        split
        · omega
        · rw [strLen_add]; omega
      rw [strLen_add, strLen_add, strLen_add, strLen_add, Option.getD_some]
      omega
theorem toldNames_len {sc kn' : List (Str × Str)} (hB : ScB sc) {ks : List Str} (hk : ∀ p ∈ ks, p ∈ sc.map (·.1)) : (toldNames sc kn' ks).length ≤ 10 + 150 * ks.length := by
  have h0 : (toldInit sc kn').length ≤ 10 := by
    unfold toldInit
    split
    · decide +kernel
    · decide +kernel
  have key : ∀ (ks : List Str) (f : Str), (∀ p ∈ ks, p ∈ sc.map (·.1)) → (ks.foldl (toldStep sc kn') f).length ≤ f.length + 150 * ks.length := by
    intro ks
    induction ks with
    | nil => intro f _; simp
    | cons p ks ih =>
      intro f h
      have h1 := ih (toldStep sc kn' f p) fun q hq => h q (.tail _ hq)
      have h2 := toldStep_len (kn' := kn') hB (f := f) (h p (.head _))
      rw [List.foldl_cons, List.length_cons]; omega
  have := key ks (toldInit sc kn') hk
  unfold toldNames
  omega
theorem told_ok (G : Gnd (hk.heap_1 P) O mg mb) (hA : Amb A 3) {sd kd : Addr} {k1 k2 : List (Str × Value)} {sc kn' : List (Str × Str)} (h1 : g sd (.dct k1)) (h2 : g kd (.dct k2)) (hD1 : DctIs sc k1) (hD2 : DctIs kn' k2) (hB : ScB sc) :
    Calls prog w O A (.ref 102) [.ref sd, .ref kd] g [] (fun v mu' => ∃ ss, ss.Perm (sc.map (·.1)) ∧ sortedS ss = true ∧ SV (toldNames sc kn' ss) v) := by
  refine Calls.fn (n := 2) [("known", .ref kd), ("scope", .ref sd)] G hA (by k_is) (by k_is) (fun _ _ => BindsTo.of_eq rfl) (locs rfl) ?_ (by rfl) (by rfl) (by rfl) (by decide)
  intro L s env c hA G
  have hh : c.A.handled = none := hA.handled
  have hkeys : k1.map (·.1) = sc.map (·.1) := by
    clear hB h1
    induction sc generalizing k1 with
    | nil => rw [Each.nilv hD1]; rfl
    | cons p r ih =>
      refine hide ?_
      intro X_ k_
      first | (refine ex2 (Each.inv hD1) ?_; rintro kv r' hr_; first | (refine and3 hr_ ?_; clear hr_; rintro rfl ⟨e, _⟩ hr) | obtain ⟨rfl, ⟨e, _⟩, hr⟩ := hr_) | (refine ex1 (Each.inv hD1) ?_; rintro kv hr_; first | (refine and4 hr_ ?_; clear hr_; rintro r' rfl ⟨e, _⟩ hr) | (refine and3 hr_ ?_; clear hr_; rintro r' rfl ⟨⟨e, _⟩, hr⟩) | obtain ⟨r', rfl, ⟨e, _⟩, hr⟩ := hr_) | (first | (refine and5 (Each.inv hD1) ?_; rintro kv r' rfl ⟨e, _⟩ hr) | (refine and4 (Each.inv hD1) ?_; rintro kv r' rfl ⟨⟨e, _⟩, hr⟩) | (refine and3 (Each.inv hD1) ?_; rintro kv r' ⟨rfl, ⟨e, _⟩, hr⟩) | obtain ⟨kv, r', rfl, ⟨e, _⟩, hr⟩ := (Each.inv hD1))
      refine k_ ?_
      clear k_ X_
      rw [List.map_cons, List.map_cons, ih hr, e]
  have hl1 := hD1.len
  have hBl := hB.len
--T--
  walk_at "msi"
  refine W.mono (Q := fun f st => f = .next ∧ ∃ t, st.m "found" = some (.str (toldInit sc kn') t) ∧ st.m "scope" = some (.ref sd) ∧ st.m "known" = some (.ref kd) ∧ st.mu = []) ?_ ?_
  · walk_at "ms"
    refine w_inDct (kn_g h2) ?_
    rw [hD2.isSome]
    walk_at "ms"
    refine Br.of (fun b1 => ?_) (fun b1 => ?_)
    · walk_at "ms"
      refine w_notInDct (kn_g h1) ?_
      rw [hD1.isSome]
      walk_at "ms"
      refine Br.of (fun b2 => ?_) (fun b2 => ?_)
      · walk_at "ms"
        have e : toldInit sc kn' = " xmlns=\"\"" := by unfold toldInit; rw [b1, b2]; rfl
        rw [e]
        exact ⟨rfl, _, by walk_at "ml0", by walk_at "ml0", by walk_at "ml0", rfl⟩
      · walk_at "ms"
        have e : toldInit sc kn' = "" := by unfold toldInit; rw [b1, b2]; rfl
        rw [e]
        exact ⟨rfl, _, by walk_at "ml0", by walk_at "ml0", by walk_at "ml0", rfl⟩
    · walk_at "ms"
      have e : toldInit sc kn' = "" := by unfold toldInit; rw [b1]; rfl
      rw [e]
      exact ⟨rfl, _, by walk_at "ml0", by walk_at "ml0", by walk_at "ml0", rfl⟩
  · rintro _ ⟨m, mu⟩ h_2
    refine hide ?_
    intro X_ k_
    first | (first | (refine and6 h_2 ?_; clear h_2; rintro rfl t0 m1 m2 m3 hmu) | (refine and5 h_2 ?_; clear h_2; rintro rfl t0 m1 m2 ⟨m3, hmu⟩) | (refine and4 h_2 ?_; clear h_2; rintro rfl t0 m1 ⟨m2, m3, hmu⟩) | (refine and3 h_2 ?_; clear h_2; rintro rfl t0 ⟨m1, m2, m3, hmu⟩) | obtain ⟨rfl, t0, m1, m2, m3, hmu⟩ := h_2)
    refine k_ ?_
    clear k_ X_
    dsimp only at m1 m2 m3 hmu
    subst hmu
    walk_at "ms"
    refine w_sortedDct hh (kn_g h1) (by omega) fun D vs ss hE hP hS => ?_
    rw [hkeys] at hP
    have hmem : ∀ p ∈ ss, p ∈ sc.map (·.1) := fun p hp => hP.mem_iff.mp hp
    have hlen : ss.length ≤ 20 := by
      have := hP.length_eq
      rw [List.length_map] at this
      omega
    walk_at "ms"
    refine w_freeze (fr := [(D, .lst vs)]) (mu := []) ?_
    refine w_forSrc (src_lst hh (.inr (.head _)) fun _ => dr_name) (fun j st => ∃ t, st.m "found" = some (.str (toldNames sc kn' (ss.take j)) t) ∧ st.m "scope" = some (.ref sd) ∧ st.m "known" = some (.ref kd) ∧ st.mu = []) ?h0 ?turn ?fin
    case h0 => exact ⟨t0, m1, m2, m3, rfl⟩
    case turn =>
      clear m1 m2 m3
      rintro j v ⟨m, mu⟩ g' hj hv h_6 hg'
      refine hide ?_
      intro X_ k_
      first | (refine ex4 h_6 ?_; clear h_6; rintro t1 m1 m2 m3 hmu) | (refine ex3 h_6 ?_; clear h_6; rintro t1 m1 m2 hr_; first | obtain ⟨m3, hmu⟩ := hr_) | (refine ex2 h_6 ?_; clear h_6; rintro t1 m1 hr_; first | (refine and3 hr_ ?_; clear hr_; rintro m2 m3 hmu) | obtain ⟨m2, m3, hmu⟩ := hr_) | (refine ex1 h_6 ?_; clear h_6; rintro t1 hr_; first | (refine and4 hr_ ?_; clear hr_; rintro m1 m2 m3 hmu) | (refine and3 hr_ ?_; clear hr_; rintro m1 m2 ⟨m3, hmu⟩) | obtain ⟨m1, m2, m3, hmu⟩ := hr_) | (first | (refine and5 h_6 ?_; clear h_6; rintro t1 m1 m2 m3 hmu) | (refine and4 h_6 ?_; clear h_6; rintro t1 m1 m2 ⟨m3, hmu⟩) | (refine and3 h_6 ?_; clear h_6; rintro t1 m1 ⟨m2, m3, hmu⟩) | obtain ⟨t1, m1, m2, m3, hmu⟩ := h_6)
      refine k_ ?_
      clear k_ X_
      dsimp only at m1 m2 m3 hmu
      subst hmu
      refine hide ?_
      intro X_ k_
      first | (refine ex3 (hE.get' hv) ?_; rintro p hp tp rfl) | (refine ex2 (hE.get' hv) ?_; rintro p hp hr_; first | obtain ⟨tp, rfl⟩ := hr_) | (refine ex1 (hE.get' hv) ?_; rintro p hr_; first | (refine and3 hr_ ?_; clear hr_; rintro hp tp rfl) | obtain ⟨hp, tp, rfl⟩ := hr_) | (first | (refine and4 (hE.get' hv) ?_; rintro p hp tp rfl) | (refine and3 (hE.get' hv) ?_; rintro p hp ⟨tp, rfl⟩) | obtain ⟨p, hp, tp, rfl⟩ := (hE.get' hv))
      refine k_ ?_
      clear k_ X_
      have hps : p ∈ ss := List.mem_of_getElem? hp
      obtain ⟨u, hu⟩ := look_mem (hmem p hps)
      refine hide ?_
      intro X_ k_
      first | (refine ex3 (hD1.some hu) ?_; rintro uv huv tu rfl) | (refine ex2 (hD1.some hu) ?_; rintro uv huv hr_; first | obtain ⟨tu, rfl⟩ := hr_) | (refine ex1 (hD1.some hu) ?_; rintro uv hr_; first | (refine and3 hr_ ?_; clear hr_; rintro huv tu rfl) | obtain ⟨huv, tu, rfl⟩ := hr_) | (first | (refine and4 (hD1.some hu) ?_; rintro uv huv tu rfl) | (refine and3 (hD1.some hu) ?_; rintro uv huv ⟨tu, rfl⟩) | obtain ⟨uv, huv, tu, rfl⟩ := (hD1.some hu))
      refine k_ ?_
      clear k_ X_
      have h1' := hg' _ _ (.inl h1)
      have h2' := hg' _ _ (.inl h2)
      have est : toldNames sc kn' (ss.take (j + 1)) = toldStep sc kn' (toldNames sc kn' (ss.take j)) p := by
        unfold toldNames
        rw [List.take_add_one, hp, List.foldl_append]; rfl
      have hlj : (toldNames sc kn' (ss.take j)).length ≤ 3010 := by
        have := toldNames_len (kn' := kn') hB (ks := ss.take j) fun q hq => hmem q (List.mem_of_mem_take hq)
        have := List.length_take_le' j ss
        omega
      generalize toldNames sc kn' (ss.take j) = f at hlj m1 est
      walk_at "msi"
      refine w_if (W.mono (Q := fun b st => (b = true ↔ ¬ p = "xml" ∧ ¬ look kn' p = look sc p) ∧ st.m "found" = some (.str f t1) ∧ st.m "scope" = some (.ref sd) ∧ st.m "known" = some (.ref kd) ∧ st.m "prefix" = some (.str p tp) ∧ st.mu = []) ?_ ?_)
      · walk_at "ms"
        refine Br.of (fun b1 => ?_) (fun b1 => ?_)
        · have b1' : ¬ p = "xml" := by simpa using b1
          walk_at "ms"
          walk_at "md_get"
          walk_at "ms"
          refine w_getDct1 (kn_g h2') ?_
          walk_at "ms"
          refine w_itemDct (kn_g h1') huv ?_ sub_name
          walk_at "ms"
          cases e : look kn' p with
          | none =>
            rw [hD2.none e]
            refine w_neNoneStr ?_
            walk_at "ms"
            refine ⟨⟨fun _ => ⟨b1', by rw [hu]; simp⟩, fun _ => rfl⟩, by walk_at "ml0", by walk_at "ml0", by walk_at "ml0", by walk_at "ml0", rfl⟩
          | some y =>
            refine hide ?_
            intro X_ k_
            first | (refine ex3 (hD2.some e) ?_; rintro yv hyv ty rfl) | (refine ex2 (hD2.some e) ?_; rintro yv hyv hr_; first | obtain ⟨ty, rfl⟩ := hr_) | (refine ex1 (hD2.some e) ?_; rintro yv hr_; first | (refine and3 hr_ ?_; clear hr_; rintro hyv ty rfl) | obtain ⟨hyv, ty, rfl⟩ := hr_) | (first | (refine and4 (hD2.some e) ?_; rintro yv hyv ty rfl) | (refine and3 (hD2.some e) ?_; rintro yv hyv ⟨ty, rfl⟩) | obtain ⟨yv, hyv, ty, rfl⟩ := (hD2.some e))
            refine k_ ?_
            clear k_ X_
            rw [hyv]
            refine w_neStr ?_
            walk_at "ms"
            refine Br.of (fun b2 => ?_) (fun b2 => ?_)
            · walk_at "ms"
              refine ⟨⟨fun _ => ⟨b1', by rw [hu]; simpa using b2⟩, fun _ => rfl⟩, by walk_at "ml0", by walk_at "ml0", by walk_at "ml0", by walk_at "ml0", rfl⟩
            · have b2' : y = u := by simpa using b2
              refine ⟨⟨fun h => (by cases h), fun h => absurd (by rw [hu, b2']) h.2⟩, by walk_at "ml0", by walk_at "ml0", by walk_at "ml0", by walk_at "ml0", rfl⟩
        · have b1' : p = "xml" := by simpa using b1
          refine ⟨⟨fun h => (by cases h), fun h => absurd b1' h.1⟩, by walk_at "ml0", by walk_at "ml0", by walk_at "ml0", by walk_at "ml0", rfl⟩
      · clear m1 m2 m3
        rintro b ⟨m, mu⟩ h_2
        refine hide ?_
        intro X_ k_
        first | (refine ex5 h_2 ?_; clear h_2; rintro hb m1 m2 m3 m4 hmu) | (refine ex4 h_2 ?_; clear h_2; rintro hb m1 m2 m3 hr_; first | obtain ⟨m4, hmu⟩ := hr_) | (refine ex3 h_2 ?_; clear h_2; rintro hb m1 m2 hr_; first | (refine and3 hr_ ?_; clear hr_; rintro m3 m4 hmu) | obtain ⟨m3, m4, hmu⟩ := hr_) | (refine ex2 h_2 ?_; clear h_2; rintro hb m1 hr_; first | (refine and4 hr_ ?_; clear hr_; rintro m2 m3 m4 hmu) | (refine and3 hr_ ?_; clear hr_; rintro m2 m3 ⟨m4, hmu⟩) | obtain ⟨m2, m3, m4, hmu⟩ := hr_) | (refine ex1 h_2 ?_; clear h_2; rintro hb hr_; first | (refine and5 hr_ ?_; clear hr_; rintro m1 m2 m3 m4 hmu) | (refine and4 hr_ ?_; clear hr_; rintro m1 m2 m3 ⟨m4, hmu⟩) | (refine and3 hr_ ?_; clear hr_; rintro m1 m2 ⟨m3, m4, hmu⟩) | obtain ⟨m1, m2, m3, m4, hmu⟩ := hr_) | (first | (refine and6 h_2 ?_; clear h_2; rintro hb m1 m2 m3 m4 hmu) | (refine and5 h_2 ?_; clear h_2; rintro hb m1 m2 m3 ⟨m4, hmu⟩) | (refine and4 h_2 ?_; clear h_2; rintro hb m1 m2 ⟨m3, m4, hmu⟩) | (refine and3 h_2 ?_; clear h_2; rintro hb m1 ⟨m2, m3, m4, hmu⟩) | obtain ⟨hb, m1, m2, m3, m4, hmu⟩ := h_2)
        refine k_ ?_
        clear k_ X_
        dsimp only at m1 m2 m3 m4 hmu
        subst hmu
        refine Br.of (fun hb' => ?_) (fun hb' => ?_)
        · obtain ⟨n1, n2⟩ := hb.mp hb'
          obtain ⟨hv1, hv2⟩ := hB.val _ _ hu n1
          have est2 : toldStep sc kn' f p = f ++ (if p = "" then Str.ofString " xmlns" else Str.ofString " xmlns:" ++ p) ++ "=\"" ++ repl u valuePairs ++ "\"" := by
            unfold toldStep
            rw [if_neg n1, if_neg n2, hu]; rfl
          have c1 : (Str.ofString " xmlns").length = 6 := by decide +kernel
          have c2 : (Str.ofString " xmlns:").length = 7 := by decide +kernel
          have c3 : (Str.ofString "=\"").length = 2 := by decide +kernel
          have c4 : (Str.ofString "\"").length = 1 := by decide +kernel
          have c5 : p.length ≤ 10 := by
            obtain ⟨q, hq, rfl⟩ := List.mem_map.mp (hmem p hps)
            exact hB.key q hq
          walk_at "ms"
          refine Br.of (fun hz => ?_) (fun hz => ?_)
          rotate_left
          focus
            walk_at "ms"
            refine w_addStr (fun _ => ?_) (by omega)
          rotate_left
          all_goals
            walk_at "ms"
            refine w_addStr (fun _ => ?_) (by (try simp only [strLen_add]); omega)
            walk_at "ms"
            refine w_addStr (fun _ => ?_) (by (try simp only [strLen_add]); omega)
            walk_at "ms"
            refine w_itemDct (kn_g h1') huv ?_ sub_name
            walk_at "ms"
            refine w_callPure _ (fun g' h1 h2 => cvalue_ok G hA hv1) ?_
            rintro _ ⟨tr, rfl⟩
            walk_at "ms"
            refine w_addStr (fun _ => ?_) (by (try simp only [strLen_add]); omega)
            walk_at "ms"
            refine w_addStr (fun _ => ?_) (by (try simp only [strLen_add]); omega)
            walk_at "ms"
            rw [est, est2]
          · rw [if_pos (by simpa using hz)]
            exact ⟨_, by walk_at "ml0", by walk_at "ml0", by walk_at "ml0", rfl⟩
          · rw [if_neg (by simpa using hz)]
            exact ⟨_, by walk_at "ml0", by walk_at "ml0", by walk_at "ml0", rfl⟩
        · have n : toldStep sc kn' f p = f := by
            unfold toldStep
            split
            · rfl
            · rename_i n1
              rw [if_pos]
              exact Classical.byContradiction fun n2 => by rw [hb.mpr ⟨n1, n2⟩] at hb'; cases hb'
          walk_at "ms"
          exact ⟨t1, by rw [est, n]; walk_at "ml0", by walk_at "ml0", by walk_at "ml0", rfl⟩
    case fin =>
      clear m1 m2 m3
      rintro ⟨m, mu⟩ h_1
      refine hide ?_
      intro X_ k_
      first | (refine ex4 h_1 ?_; clear h_1; rintro t1 m1 m2 m3 hmu) | (refine ex3 h_1 ?_; clear h_1; rintro t1 m1 m2 hr_; first | obtain ⟨m3, hmu⟩ := hr_) | (refine ex2 h_1 ?_; clear h_1; rintro t1 m1 hr_; first | (refine and3 hr_ ?_; clear hr_; rintro m2 m3 hmu) | obtain ⟨m2, m3, hmu⟩ := hr_) | (refine ex1 h_1 ?_; clear h_1; rintro t1 hr_; first | (refine and4 hr_ ?_; clear hr_; rintro m1 m2 m3 hmu) | (refine and3 hr_ ?_; clear hr_; rintro m1 m2 ⟨m3, hmu⟩) | obtain ⟨m1, m2, m3, hmu⟩ := hr_) | (first | (refine and5 h_1 ?_; clear h_1; rintro t1 m1 m2 m3 hmu) | (refine and4 h_1 ?_; clear h_1; rintro t1 m1 m2 ⟨m3, hmu⟩) | (refine and3 h_1 ?_; clear h_1; rintro t1 m1 ⟨m2, m3, hmu⟩) | obtain ⟨t1, m1, m2, m3, hmu⟩ := h_1)
      refine k_ ?_
      clear k_ X_
      dsimp only at m1 m2 m3 hmu
      subst hmu
      walk_at "ms"
      rw [← hE.len, List.take_length]
      exact ⟨ss, hP, hS, _, rfl⟩
end
end Mine
end -- F17

section -- F18
open PySem PySem.W PySem.Calls PyProof.Rows PySem.Builtin
namespace Mine
section
variable {prog : Program} {w : World} {O : Heap} {A : Around} {P : Params} {mg mb : Str → Option Value} {g : Kn}

theorem sum_le_of {ys : List Str} {K : Nat} (h : ∀ y ∈ ys, y.length ≤ K) : (ys.map (·.length)).sum ≤ ys.length * K := by
  induction ys with
  | nil => simp
  | cons y ys ih =>
    have h1 := ih fun z hz => h z (.tail _ hz)
    have h2 := h y (.head _)
    rw [List.map_cons, List.sum_cons, List.length_cons, Nat.succ_mul]; omega
theorem joinFew {ys : List Str} (K N : Nat) (h : ∀ y ∈ ys, y.length ≤ K) (hn : ys.length ≤ N) (hK : N * K + N ≤ 1048576) : JoinOk "" ys = true := by
  refine joinOk_of_weight ?_ (by decide +kernel)
  have h1 := sum_le_of h
  have h2 : ys.length * K ≤ N * K := Nat.mul_le_mul_right _ hn
  omega
noncomputable def toldA (r : R4) : Str := Str.ofString " " ++ r.2.2.1 ++ "=\"" ++ repl r.2.2.2 valuePairs ++ "\""
structure AtB (r : R4) : Prop where
  name : r.2.2.1.length ≤ 100
  ok : ROk r.2.2.2 valuePairs = true
  len : (repl r.2.2.2 valuePairs).length ≤ 200
theorem toldA_len {r : R4} (h : AtB r) : (toldA r).length ≤ 310 := by
  have h1 := h.name
  have h2 := h.len
  have c1 : (Str.ofString " ").length = 1 := by decide +kernel
  have c3 : (Str.ofString "=\"").length = 2 := by decide +kernel
  have c4 : (Str.ofString "\"").length = 1 := by decide +kernel
  unfold toldA
  simp only [strLen_add]
  omega
noncomputable def AtsAt (t : List NR) (i : Nat) (as : List R4) : Prop := ∃ nr, t[i]? = some nr ∧ Each (fun k (r : R4) => ∃ nk, t[k]? = some nk ∧ nk.uri = r.1 ∧ nk.loc = r.2.1 ∧ nk.name = r.2.2.1 ∧ nk.value = r.2.2.2) nr.ats as
structure RkOk (rk : R4 → Nat) (as : List R4) : Prop where
  lt5 : ∀ r ∈ as, rk r < 5
  nd : (as.map rk).Nodup
  ord : ∀ r ∈ as, ∀ r' ∈ as, rk r ≠ rk r' → (r.1, r.2.1) ≠ (r'.1, r'.2.1) ∧ ltR r r' = decide (rk r < rk r')

theorem tattrs_ok (G : Gnd (hk.heap_1 P) O mg mb) (hA : Amb A 3) {T : TA} {t : List NR} (hT : TreeIs T t) (hg : inG g (treeLed T)) {i : Nat} {ti : Tok} {as : List R4} {rk : R4 → Nat} (hN : AtsAt t i as) (hz : as.length ≤ 5) (hB : ∀ r ∈ as, AtB r) (hR : RkOk rk as) :
    Calls prog w O A (.ref 107) [.ref T.x, .int i ti] g [] (fun v _ => ∃ out : List R4, out.Perm as ∧ (out.map rk).Pairwise (· < ·) ∧ SV (Txt.join "" (out.map toldA)) v) := by
  refine Calls.fnC (n := 2) [("tree", .ref T.x), ("element", .int i ti)] (over "element" (.int i ti) fun _ => none) (fun L => [(L + 1, .cell (some (.ref T.x)))]) G hA (by k_is) (by k_is) (fun _ _ => BindsTo.of_eq rfl) (by kernel_rfl) (by decide +kernel) (by kernel_rfl) (by intro L; kernel_rfl) ?_ (by rfl) (by rfl) (by rfl)
  intro L s env c hA G
  have hh : c.A.handled = none := hA.handled
  have k1 := tg1 hg
  have k2 := tg2 hg
  obtain ⟨nr, hnr, hE⟩ := hN
  have hl0 := hE.len
  refine w_seq (w_assignComp (cl := [("tree", L + 1)]) ?_ (by rfl) (by rfl) (by decide) (by rfl) (by decide +kernel))
  walk_at "ms"
  walk_at "mmeth"
  walk_at "ms"
  refine w_call (mu := []) _ (fun g' h1 h2 => attributes_ok G hA hT (hg.mono h1) hnr) ?_
  rintro _ _ h_2
  refine hide ?_
  intro X_ k_
  first | (refine ex2 h_2 ?_; clear h_2; rintro nl ns hr_; first | (refine and3 hr_ ?_; clear hr_; rintro rfl rfl hns) | obtain ⟨rfl, rfl, hns⟩ := hr_) | (refine ex1 h_2 ?_; clear h_2; rintro nl hr_; first | (refine and4 hr_ ?_; clear hr_; rintro ns rfl rfl hns) | (refine and3 hr_ ?_; clear hr_; rintro ns rfl ⟨rfl, hns⟩) | obtain ⟨ns, rfl, rfl, hns⟩ := hr_) | (first | (refine and5 h_2 ?_; clear h_2; rintro nl ns rfl rfl hns) | (refine and4 h_2 ?_; clear h_2; rintro nl ns rfl ⟨rfl, hns⟩) | (refine and3 h_2 ?_; clear h_2; rintro nl ns ⟨rfl, rfl, hns⟩) | obtain ⟨nl, ns, rfl, rfl, hns⟩ := h_2)
  refine k_ ?_
  clear k_ X_
  refine ⟨[(nl, .lst ns), (L + 1, .cell (some (.ref T.x)))], _, [], ns.length, fun i v => ns[i]? = some v, fun i vs mu => Each (V4 (inL mu)) (as.take i) vs, rfl, src_lst hh (.inr (.head _)) fun _ => dr_name, trivial, ?turn, ?len, ?fin⟩
  case len =>
    rintro i vs mu hE' hi
    have e1 := hE'.len
    have e3 : (as.take i).length ≤ as.length := List.length_take_le' _ _
    rw [sizeLine_eq]
    omega
  case turn =>
    rintro i v vs mu m0 L' g' hi hv hE' hg'
    refine hide ?_
    intro X_ k_
    first | (refine ex3 (hns.get' hv) ?_; rintro k hk tk rfl) | (refine ex2 (hns.get' hv) ?_; rintro k hk hr_; first | obtain ⟨tk, rfl⟩ := hr_) | (refine ex1 (hns.get' hv) ?_; rintro k hr_; first | (refine and3 hr_ ?_; clear hr_; rintro hk tk rfl) | obtain ⟨hk, tk, rfl⟩ := hr_) | (first | (refine and4 (hns.get' hv) ?_; rintro k hk tk rfl) | (refine and3 (hns.get' hv) ?_; rintro k hk ⟨tk, rfl⟩) | obtain ⟨k, hk, tk, rfl⟩ := (hns.get' hv))
    refine k_ ?_
    clear k_ X_
    refine hide ?_
    intro X_ k_
    first | (refine ex7 (hE.get hk) ?_; rintro r hr nk hnk e1 e2 e3 e4) | (refine ex6 (hE.get hk) ?_; rintro r hr nk hnk e1 e2 hr_; first | obtain ⟨e3, e4⟩ := hr_) | (refine ex5 (hE.get hk) ?_; rintro r hr nk hnk e1 hr_; first | (refine and3 hr_ ?_; clear hr_; rintro e2 e3 e4) | obtain ⟨e2, e3, e4⟩ := hr_) | (refine ex4 (hE.get hk) ?_; rintro r hr nk hnk hr_; first | (refine and4 hr_ ?_; clear hr_; rintro e1 e2 e3 e4) | (refine and3 hr_ ?_; clear hr_; rintro e1 e2 ⟨e3, e4⟩) | obtain ⟨e1, e2, e3, e4⟩ := hr_) | (refine ex3 (hE.get hk) ?_; rintro r hr nk hr_; first | (refine and5 hr_ ?_; clear hr_; rintro hnk e1 e2 e3 e4) | (refine and4 hr_ ?_; clear hr_; rintro hnk e1 e2 ⟨e3, e4⟩) | (refine and3 hr_ ?_; clear hr_; rintro hnk e1 ⟨e2, e3, e4⟩) | obtain ⟨hnk, e1, e2, e3, e4⟩ := hr_) | (refine ex2 (hE.get hk) ?_; rintro r hr hr_; first | (refine and6 hr_ ?_; clear hr_; rintro nk hnk e1 e2 e3 e4) | (refine and5 hr_ ?_; clear hr_; rintro nk hnk e1 e2 ⟨e3, e4⟩) | (refine and4 hr_ ?_; clear hr_; rintro nk hnk e1 ⟨e2, e3, e4⟩) | (refine and3 hr_ ?_; clear hr_; rintro nk hnk ⟨e1, e2, e3, e4⟩) | obtain ⟨nk, hnk, e1, e2, e3, e4⟩ := hr_) | (refine ex1 (hE.get hk) ?_; rintro r hr_; first | (refine and7 hr_ ?_; clear hr_; rintro hr nk hnk e1 e2 e3 e4) | (refine and6 hr_ ?_; clear hr_; rintro hr nk hnk e1 e2 ⟨e3, e4⟩) | (refine and5 hr_ ?_; clear hr_; rintro hr nk hnk e1 ⟨e2, e3, e4⟩) | (refine and4 hr_ ?_; clear hr_; rintro hr nk hnk ⟨e1, e2, e3, e4⟩) | (refine and3 hr_ ?_; clear hr_; rintro hr nk ⟨hnk, e1, e2, e3, e4⟩) | obtain ⟨hr, nk, hnk, e1, e2, e3, e4⟩ := hr_) | (first | (refine and8 (hE.get hk) ?_; rintro r hr nk hnk e1 e2 e3 e4) | (refine and7 (hE.get hk) ?_; rintro r hr nk hnk e1 e2 ⟨e3, e4⟩) | (refine and6 (hE.get hk) ?_; rintro r hr nk hnk e1 ⟨e2, e3, e4⟩) | (refine and5 (hE.get hk) ?_; rintro r hr nk hnk ⟨e1, e2, e3, e4⟩) | (refine and4 (hE.get hk) ?_; rintro r hr nk ⟨hnk, e1, e2, e3, e4⟩) | (refine and3 (hE.get hk) ?_; rintro r hr ⟨nk, hnk, e1, e2, e3, e4⟩) | obtain ⟨r, hr, nk, hnk, e1, e2, e3, e4⟩ := (hE.get hk))
    refine k_ ?_
    clear k_ X_
    have hgT : inG g' (treeLed T) := fun q hq => hg' _ _ (.inl (hg q hq))
    have k1' := tg1 hgT
    have k2' := tg2 hgT
    have kc : g' (L + 1) (.cell (some (.ref T.x))) := hg' _ _ (.inr (.tail _ (.head _)))
    walk_at "ms"
    walk_at "mmeth"
    walk_at "ms"
    refine w_callPure _ (fun g'' h1 h2 => uri_ok G hA.le hT (hgT.mono h1) hnk) ?_
    rintro _ ⟨t1, rfl⟩
    walk_at "ms"
    walk_at "mmeth"
    walk_at "ms"
    refine w_callPure _ (fun g'' h1 h2 => local_ok G hA.le hT (hgT.mono h1) hnk) ?_
    rintro _ ⟨t2, rfl⟩
    walk_at "ms"
    walk_at "mmeth"
    walk_at "ms"
    refine w_callPure _ (fun g'' h1 h2 => name_ok G hA.le hT (hgT.mono h1) hnk) ?_
    rintro _ ⟨t3, rfl⟩
    walk_at "ms"
    walk_at "mmeth"
    walk_at "ms"
    refine w_callPure _ (fun g'' h1 h2 => value_ok G hA.le hT (hgT.mono h1) hnk) ?_
    rintro _ ⟨t4, rfl⟩
    rw [e1, e2, e3, e4]
    walk_at "ms"
    dsimp only
    rw [List.take_add_one, hr]
    exact Each.snoc (hE'.mono (V4.mono fun a vs h => .tail _ h)) ⟨_, t1, t2, t3, t4, rfl, .head _⟩
  case fin =>
    rintro D vs mu hE' g' hg'
    rw [← hns.len, hl0, List.take_length] at hE'
    walk_at "ms"
    dsimp only
    refine w_comp (cl := []) ?_ (by rfl) (by decide) (by rfl) (by decide +kernel)
    walk_at "ms"
    refine w_sortedR (as := as) (rk := rk) (kn_mu (List.mem_append_right _ (.head _))) (hE'.mono (V4.mono fun a vs h => .inr (List.mem_append_right _ (.tail _ h)))) hz hR.lt5 hR.nd hR.ord fun D2 out ovs hP hO hS => ?_
    have hol : out.length ≤ 5 := by rw [hP.length_eq]; exact hz
    refine ⟨(D2, .lst ovs) :: ([(nl, .lst ns), (L + 1, .cell (some (.ref T.x)))] ++ (D, .lst vs) :: mu), _, [], ovs.length, fun i v => ovs[i]? = some v, fun i vs mu => mu = [] ∧ Each SV ((out.take i).map toldA) vs, by rw [List.append_nil], src_lst hh (.inr (.head _)) fun _ => dr_tupL, ⟨rfl, trivial⟩, ?turn2, ?len2, ?fin2⟩
    case len2 =>
      rintro i vs mu ⟨rfl, hE⟩ hi
      have e1 := hE.len
      have e3 : (out.take i).length ≤ out.length := List.length_take_le' _ _
      rw [List.length_map] at e1
      rw [sizeLine_eq]
      omega
    case turn2 =>
      rintro j v vs' mu' m0 L' g'' hj hv ⟨rfl, hE2⟩ hg''
      refine hide ?_
      intro X_ k_
      first | (refine ex7 (hO.get' hv) ?_; rintro r hr a t1 t2 t3 t4 hr_; first | obtain ⟨rfl, hk⟩ := hr_) | (refine ex6 (hO.get' hv) ?_; rintro r hr a t1 t2 t3 hr_; first | (refine and3 hr_ ?_; clear hr_; rintro t4 rfl hk) | obtain ⟨t4, rfl, hk⟩ := hr_) | (refine ex5 (hO.get' hv) ?_; rintro r hr a t1 t2 hr_; first | (refine and4 hr_ ?_; clear hr_; rintro t3 t4 rfl hk) | (refine and3 hr_ ?_; clear hr_; rintro t3 t4 ⟨rfl, hk⟩) | obtain ⟨t3, t4, rfl, hk⟩ := hr_) | (refine ex4 (hO.get' hv) ?_; rintro r hr a t1 hr_; first | (refine and5 hr_ ?_; clear hr_; rintro t2 t3 t4 rfl hk) | (refine and4 hr_ ?_; clear hr_; rintro t2 t3 t4 ⟨rfl, hk⟩) | (refine and3 hr_ ?_; clear hr_; rintro t2 t3 ⟨t4, rfl, hk⟩) | obtain ⟨t2, t3, t4, rfl, hk⟩ := hr_) | (refine ex3 (hO.get' hv) ?_; rintro r hr a hr_; first | (refine and6 hr_ ?_; clear hr_; rintro t1 t2 t3 t4 rfl hk) | (refine and5 hr_ ?_; clear hr_; rintro t1 t2 t3 t4 ⟨rfl, hk⟩) | (refine and4 hr_ ?_; clear hr_; rintro t1 t2 t3 ⟨t4, rfl, hk⟩) | (refine and3 hr_ ?_; clear hr_; rintro t1 t2 ⟨t3, t4, rfl, hk⟩) | obtain ⟨t1, t2, t3, t4, rfl, hk⟩ := hr_) | (refine ex2 (hO.get' hv) ?_; rintro r hr hr_; first | (refine and7 hr_ ?_; clear hr_; rintro a t1 t2 t3 t4 rfl hk) | (refine and6 hr_ ?_; clear hr_; rintro a t1 t2 t3 t4 ⟨rfl, hk⟩) | (refine and5 hr_ ?_; clear hr_; rintro a t1 t2 t3 ⟨t4, rfl, hk⟩) | (refine and4 hr_ ?_; clear hr_; rintro a t1 t2 ⟨t3, t4, rfl, hk⟩) | (refine and3 hr_ ?_; clear hr_; rintro a t1 ⟨t2, t3, t4, rfl, hk⟩) | obtain ⟨a, t1, t2, t3, t4, rfl, hk⟩ := hr_) | (refine ex1 (hO.get' hv) ?_; rintro r hr_; first | (refine and8 hr_ ?_; clear hr_; rintro hr a t1 t2 t3 t4 rfl hk) | (refine and7 hr_ ?_; clear hr_; rintro hr a t1 t2 t3 t4 ⟨rfl, hk⟩) | (refine and6 hr_ ?_; clear hr_; rintro hr a t1 t2 t3 ⟨t4, rfl, hk⟩) | (refine and5 hr_ ?_; clear hr_; rintro hr a t1 t2 ⟨t3, t4, rfl, hk⟩) | (refine and4 hr_ ?_; clear hr_; rintro hr a t1 ⟨t2, t3, t4, rfl, hk⟩) | (refine and3 hr_ ?_; clear hr_; rintro hr a ⟨t1, t2, t3, t4, rfl, hk⟩) | obtain ⟨hr, a, t1, t2, t3, t4, rfl, hk⟩ := hr_) | (first | (refine and9 (hO.get' hv) ?_; rintro r hr a t1 t2 t3 t4 rfl hk) | (refine and8 (hO.get' hv) ?_; rintro r hr a t1 t2 t3 t4 ⟨rfl, hk⟩) | (refine and7 (hO.get' hv) ?_; rintro r hr a t1 t2 t3 ⟨t4, rfl, hk⟩) | (refine and6 (hO.get' hv) ?_; rintro r hr a t1 t2 ⟨t3, t4, rfl, hk⟩) | (refine and5 (hO.get' hv) ?_; rintro r hr a t1 ⟨t2, t3, t4, rfl, hk⟩) | (refine and4 (hO.get' hv) ?_; rintro r hr a ⟨t1, t2, t3, t4, rfl, hk⟩) | (refine and3 (hO.get' hv) ?_; rintro r hr ⟨a, t1, t2, t3, t4, rfl, hk⟩) | obtain ⟨r, hr, a, t1, t2, t3, t4, rfl, hk⟩ := (hO.get' hv))
      refine k_ ?_
      clear k_ X_
      have ha := hg'' a (.tup [.str r.1 t1, .str r.2.1 t2, .str r.2.2.1 t3, .str r.2.2.2 t4]) (hk.elim .inl fun h => .inr (.tail _ h))
      have hrB := hB r (hP.mem_iff.mp (List.mem_of_getElem? hr))
      have b1 := hrB.name
      have b2 := hrB.len
      have c1 : (Str.ofString " ").length = 1 := by decide +kernel
      have c3 : (Str.ofString "=\"").length = 2 := by decide +kernel
      have c4 : (Str.ofString "\"").length = 1 := by decide +kernel
      walk_at "ms"
      refine w_addStr (fun _ => ?_) (by omega)
      walk_at "ms"
      refine w_addStr (fun _ => ?_) (by simp only [strLen_add]; omega)
      walk_at "ms"
      refine w_callPure _ (fun g' h1 h2 => cvalue_ok G hA hrB.ok) ?_
      rintro _ ⟨tr, rfl⟩
      walk_at "ms"
      refine w_addStr (fun _ => ?_) (by simp only [strLen_add]; omega)
      walk_at "ms"
      refine w_addStr (fun _ => ?_) (by simp only [strLen_add]; omega)
      refine ⟨rfl, ?_⟩
      rw [List.take_add_one, hr, List.map_append]
      exact hE2.snoc ⟨_, rfl⟩
    case fin2 =>
      rintro F vs' mu' ⟨rfl, hE2⟩
      rw [← hO.len, List.take_length] at hE2
      walk_at "ms"
      refine w_joinE (kn_mu (List.mem_append_right _ (.head _))) hE2 (joinFew 310 5 (fun y hy => ?_) (by rw [List.length_map]; exact hol) (by decide)) fun t' => ?_
      · obtain ⟨r, hr, rfl⟩ := List.mem_map.mp hy
        exact toldA_len (hB r (hP.mem_iff.mp hr))
      · exact ⟨out, hP, hS, t', rfl⟩
end
end Mine
end -- F18

section -- F19
open PySem PySem.W PySem.Calls PyProof.Rows PySem.Builtin
namespace Mine
section
variable {prog : Program} {w : World} {O : Heap} {A : Around} {P : Params} {mg mb : Str → Option Value} {g : Kn}

theorem leaf_ok (G : Gnd (hk.heap_1 P) O mg mb) (hA : Amb A 3) {T : TA} {t : List NR} (hT : TreeIs T t) (hg : inG g (treeLed T)) {i : Nat} {ti : Tok} {nr : NR} {v : Value} (hn : t[i]? = some nr) (hk : nr.kind = Str.ofString "text") (hok : ROk nr.value textPairs = true) :
    Calls prog w O A (.ref 114) [.ref T.x, .int i ti, v] g [] (fun v _ => SV (repl nr.value textPairs) v) := by
  refine Calls.fn (n := 2) [("comments", v), ("node", .int i ti), ("tree", .ref T.x)] G hA (by k_is) (by k_is) (fun _ _ => BindsTo.of_eq rfl) (locs rfl) ?_ (by rfl) (by rfl) (by rfl) (by decide)
  intro L s env c hA G
  have hh : c.A.handled = none := hA.handled
  have k1 := tg1 hg
  have k2 := tg2 hg
  walk_at "ms"
  walk_at "mmeth"
  walk_at "ms"
  refine w_callPure _ (fun g' h1 h2 => kind_ok G hA hT (hg.mono h1) hn) ?_
  rintro _ ⟨t1, rfl⟩
  rw [hk]
  walk_at "ms"
  refine Br.tt (by simp) ?_
  walk_at "ms"
  walk_at "mmeth"
  walk_at "ms"
  refine w_callPure _ (fun g' h1 h2 => value_ok G hA hT (hg.mono h1) hn) ?_
  rintro _ ⟨t2, rfl⟩
  walk_at "ms"
  refine w_callPure _ (fun g' h1 h2 => ctext_ok G hA.le hok) ?_
  rintro _ ⟨t3, rfl⟩
  exact ⟨t3, rfl⟩
end
end Mine
end -- F19

section -- F20d
open PySem PySem.W PySem.Calls PyProof.Rows PySem.Builtin
namespace Mine
section
theorem each_last {α β : Type} {R : α → β → Prop} : ∀ {ys : List β} {zs : List α} {y : β}, Each R zs (ys ++ [y]) → ∃ xs x, zs = xs ++ [x] ∧ Each R xs ys ∧ R x y
  | [], [], _, h => h.elim
  | [], x :: zs, y, h => by
    cases zs with
    | nil => exact ⟨[], x, rfl, trivial, h.1⟩
    | cons => exact h.2.elim
  | _ :: _, [], _, h => h.elim
  | b :: ys, a :: zs, y, h => by
    refine hide ?_
    intro X_ k_
    first | (refine ex2 (each_last h.2) ?_; rintro xs x hr_; first | (refine and3 hr_ ?_; clear hr_; rintro rfl h1 h2) | obtain ⟨rfl, h1, h2⟩ := hr_) | (refine ex1 (each_last h.2) ?_; rintro xs hr_; first | (refine and4 hr_ ?_; clear hr_; rintro x rfl h1 h2) | (refine and3 hr_ ?_; clear hr_; rintro x rfl ⟨h1, h2⟩) | obtain ⟨x, rfl, h1, h2⟩ := hr_) | (first | (refine and5 (each_last h.2) ?_; rintro xs x rfl h1 h2) | (refine and4 (each_last h.2) ?_; rintro xs x rfl ⟨h1, h2⟩) | (refine and3 (each_last h.2) ?_; rintro xs x ⟨rfl, h1, h2⟩) | obtain ⟨xs, x, rfl, h1, h2⟩ := (each_last h.2))
    refine k_ ?_
    clear k_ X_
    exact ⟨a :: xs, x, rfl, ⟨h.1, h1⟩, h2⟩
theorem each_nil {α β : Type} {R : α → β → Prop} {zs : List α} (h : Each R zs ([] : List β)) : zs = [] := by
  cases zs with
  | nil => rfl
  | cons => exact h.elim
noncomputable def catS (l : List Str) : Str := Txt.join "" l
theorem empty_eq : (Str.ofString "") = ⟨#[]⟩ := by decide +kernel
theorem catS_nil : catS [] = Str.ofString "" := by decide +kernel
theorem catS_cons (x : Str) (l : List Str) : catS (x :: l) = x ++ catS l := by
  unfold catS Txt.join
  rw [StrLaws.glued_eq_join, StrLaws.glued_eq_join, empty_eq, join_nil_cons]
theorem str_empty_append (a : Str) : Str.ofString "" ++ a = a := by rw [empty_eq]; exact Str.empty_append a
theorem str_append_empty (a : Str) : a ++ Str.ofString "" = a := by rw [empty_eq]; exact Str.append_empty a
theorem catS_append : ∀ (l r : List Str), catS (l ++ r) = catS l ++ catS r
  | [], r => by rw [catS_nil, str_empty_append]; rfl
  | x :: l, r => by rw [List.cons_append, catS_cons, catS_cons, catS_append l r, Str.append_assoc]
theorem catS_one (x : Str) : catS [x] = x := by rw [catS_cons, catS_nil, str_append_empty]

theorem catS_len (l : List Str) : (catS l).length ≤ (l.map (·.length)).sum := by
  induction l with
  | nil => rw [catS_nil]; decide +kernel
  | cons x l ih => rw [catS_cons, strLen_add, List.map_cons, List.sum_cons]; omega
/-- an element of a line, as it stands in the tree -/
structure Lvl where
  e : Nat
  nm : Str
  us : List (Str × Str)
  as : List R4
  tx : Option (Nat × Str)
noncomputable def txCh (tx : Option (Nat × Str)) : List Nat := match tx with | some p => [p.1] | none => []
noncomputable def hdE (ls : List Lvl) : List Nat := match ls with | l :: _ => [l.e] | [] => []
noncomputable def nextSc (sc : List (Str × Str)) (ls : List Lvl) : List (Str × Str) := match ls with | l :: _ => l.us.foldl stepS sc | [] => sc
structure LvlOk (rk : R4 → Nat) (t : List NR) (l : Lvl) (nx : List Nat) : Prop where
  row : ∃ nr, t[l.e]? = some nr ∧ nr.kind = Str.ofString "element" ∧ nr.name = l.nm ∧ nr.ch = txCh l.tx ++ nx
  nm : l.nm.length ≤ 100
  ns : NsAt t l.e l.us
  nsl : l.us.length ≤ 10
  at' : AtsAt t l.e l.as
  atl : l.as.length ≤ 5
  atb : ∀ r ∈ l.as, AtB r
  rko : RkOk rk l.as
  tx : ∀ p, l.tx = some p → ∃ nk, t[p.1]? = some nk ∧ nk.kind = Str.ofString "text" ∧ nk.value = p.2 ∧ ROk p.2 textPairs = true ∧ (repl p.2 textPairs).length ≤ 1000
noncomputable def ChainOk (rk : R4 → Nat) (t : List NR) : List (Str × Str) → List Lvl → Prop
  | _, [] => True
  | sc, l :: ls => ScB sc ∧ LvlOk rk t l (hdE ls) ∧ ChainOk rk t (nextSc sc ls) ls
noncomputable def OpenOut (rk : R4 → Nat) (sc kn : List (Str × Str)) (l : Lvl) (o : Str) : Prop := ∃ (ss : List Str) (out : List R4), ss.Perm (sc.map (·.1)) ∧ sortedS ss = true ∧ out.Perm l.as ∧ (out.map rk).Pairwise (· < ·) ∧ o = Str.ofString "<" ++ l.nm ++ toldNames sc kn ss ++ Txt.join "" (out.map toldA) ++ ">"
noncomputable def txOut (tx : Option (Nat × Str)) : Str := match tx with | some p => repl p.2 textPairs | none => ""
noncomputable def closeOut (l : Lvl) : Str := Str.ofString "</" ++ l.nm ++ ">"
noncomputable def ElemOut (rk : R4 → Nat) : List (Str × Str) → List (Str × Str) → List Lvl → Str → Prop
  | _, _, [], o => o = ""
  | sc, kn, l :: ls, o => ∃ a b, OpenOut rk sc kn l a ∧ ElemOut rk (nextSc sc ls) sc ls b ∧ o = a ++ txOut l.tx ++ b ++ closeOut l
inductive Item where
  | close (l : Lvl)
  | text (k : Nat) (x : Str)
  | elem (sc kn : List (Str × Str)) (l : Lvl) (ls : List Lvl)
noncomputable def Item.node : Item → Nat
  | .close l => l.e
  | .text k _ => k
  | .elem _ _ l _ => l.e
noncomputable def Item.wt : Item → Nat
  | .close _ => 1
  | .text _ _ => 1
  | .elem _ _ _ ls => 3 * (ls.length + 1)
noncomputable def wts (its : List Item) : Nat := (its.map Item.wt).sum
theorem wts_append (a b : List Item) : wts (a ++ b) = wts a + wts b := by unfold wts; rw [List.map_append, List.sum_append]
noncomputable def Item.Out (rk : R4 → Nat) : Item → Str → Prop
  | .close l, o => o = closeOut l
  | .text _ x, o => o = repl x textPairs
  | .elem sc kn l ls, o => ElemOut rk sc kn (l :: ls) o
noncomputable def Item.Ok (rk : R4 → Nat) (t : List NR) : Item → Prop
  | .close l => l.nm.length ≤ 100 ∧ ∃ nr, t[l.e]? = some nr ∧ nr.name = l.nm
  | .text k x => ∃ nk, t[k]? = some nk ∧ nk.kind = Str.ofString "text" ∧ nk.value = x ∧ ROk x textPairs = true ∧ (repl x textPairs).length ≤ 1000
  | .elem sc kn l ls => ChainOk rk t sc (l :: ls)
noncomputable def Item.V (K : Kn) : Item → Value → Prop
  | .close l, v => ∃ a te, v = .ref a ∧ K a (.tup [.int l.e te, .none, .none])
  | .text k _, v => ∃ a tk sd kd, v = .ref a ∧ K a (.tup [.int k tk, .ref sd, .ref kd])
  | .elem sc kn l _, v => ∃ a te sd kd k1 k2, v = .ref a ∧ K a (.tup [.int l.e te, .ref sd, .ref kd]) ∧ K sd (.dct k1) ∧ K kd (.dct k2) ∧ DctIs sc k1 ∧ DctIs kn k2
theorem Item.V.mono {K K' : Kn} (k : ∀ a sh, K a sh → K' a sh) : ∀ (it : Item) (v : Value), it.V K v → it.V K' v
  | .close _, _, ⟨a, te, e, h⟩ => ⟨a, te, e, k _ _ h⟩
  | .text _ _, _, ⟨a, te, sd, kd, e, h⟩ => ⟨a, te, sd, kd, e, k _ _ h⟩
  | .elem _ _ _ _, _, ⟨a, te, sd, kd, k1, k2, e, h1, h2, h3, h4, h5⟩ => ⟨a, te, sd, kd, k1, k2, e, k _ _ h1, k _ _ h2, k _ _ h3, h4, h5⟩
/-- what is still to come: the last thing first -/
noncomputable def Outs (rk : R4 → Nat) : List Item → Str → Prop
  | [], o => o = ""
  | it :: r, o => ∃ a b, it.Out rk a ∧ Outs rk r b ∧ o = a ++ b
theorem Outs.app {rk : R4 → Nat} : ∀ {xs ys : List Item} {o : Str}, Outs rk (xs ++ ys) o → ∃ a b, Outs rk xs a ∧ Outs rk ys b ∧ o = a ++ b
  | [], ys, o, h => ⟨_, _, rfl, h, (str_empty_append o).symm⟩
  | x :: xs, ys, o, ⟨a, b, h1, h2, e⟩ => by
    refine hide ?_
    intro X_ k_
    first | (refine ex4 (Outs.app h2) ?_; rintro a' b' h3 h4 rfl) | (refine ex3 (Outs.app h2) ?_; rintro a' b' h3 hr_; first | obtain ⟨h4, rfl⟩ := hr_) | (refine ex2 (Outs.app h2) ?_; rintro a' b' hr_; first | (refine and3 hr_ ?_; clear hr_; rintro h3 h4 rfl) | obtain ⟨h3, h4, rfl⟩ := hr_) | (refine ex1 (Outs.app h2) ?_; rintro a' hr_; first | (refine and4 hr_ ?_; clear hr_; rintro b' h3 h4 rfl) | (refine and3 hr_ ?_; clear hr_; rintro b' h3 ⟨h4, rfl⟩) | obtain ⟨b', h3, h4, rfl⟩ := hr_) | (first | (refine and5 (Outs.app h2) ?_; rintro a' b' h3 h4 rfl) | (refine and4 (Outs.app h2) ?_; rintro a' b' h3 ⟨h4, rfl⟩) | (refine and3 (Outs.app h2) ?_; rintro a' b' ⟨h3, h4, rfl⟩) | obtain ⟨a', b', h3, h4, rfl⟩ := (Outs.app h2))
    refine k_ ?_
    clear k_ X_
    exact ⟨_, _, ⟨a, a', h1, h3, rfl⟩, h4, by rw [e, Str.append_assoc]⟩
/-- the children of an element, the last thing first -/
noncomputable def kids (sc : List (Str × Str)) (l : Lvl) (ls : List Lvl) : List Item :=
  (match ls with | l' :: r => [.elem (nextSc sc ls) sc l' r] | [] => []) ++ (match l.tx with | some p => [.text p.1 p.2] | none => [])
theorem kids_node (sc : List (Str × Str)) (l : Lvl) (ls : List Lvl) : (kids sc l ls).map Item.node = (txCh l.tx ++ hdE ls).reverse := by
  unfold kids txCh hdE
  cases ls <;> cases l.tx <;> rfl
theorem kids_w (sc : List (Str × Str)) (l : Lvl) (ls : List Lvl) : wts (kids sc l ls) + 2 ≤ 3 * (ls.length + 1) := by
  unfold kids wts
  cases ls <;> cases l.tx <;> simp [Item.wt] <;> omega
theorem kids_ok {rk : R4 → Nat} {t : List NR} {sc : List (Str × Str)} {l : Lvl} {ls : List Lvl} (h : ChainOk rk t sc (l :: ls)) : ∀ it ∈ kids sc l ls, it.Ok rk t := by
  intro it hit
  obtain ⟨_, h2, h3⟩ := h
  unfold kids at hit
  rcases List.mem_append.mp hit with hm | hm
  · cases ls with
    | nil => cases hm
    | cons l' r =>
      rw [List.mem_singleton.mp hm]
      exact h3
  · cases e : l.tx with
    | none => rw [e] at hm; cases hm
    | some p =>
      rw [e] at hm
      rw [List.mem_singleton.mp hm]
      exact h2.tx p e
theorem kids_cases {sc : List (Str × Str)} {l : Lvl} {ls : List Lvl} : ∀ it ∈ kids sc l ls, (∃ k x, it = .text k x) ∨ ∃ l' r, ls = l' :: r ∧ it = .elem (l'.us.foldl stepS sc) sc l' r := by
  intro it hit
  unfold kids at hit
  rcases List.mem_append.mp hit with hm | hm
  · cases ls with
    | nil => cases hm
    | cons l' r =>
      rw [List.mem_singleton.mp hm]
      exact .inr ⟨l', r, rfl, rfl⟩
  · cases e : l.tx with
    | none => rw [e] at hm; cases hm
    | some p =>
      rw [e] at hm
      rw [List.mem_singleton.mp hm]
      exact .inl ⟨_, _, rfl⟩
theorem perm2 {x y : Addr × Sh} (pre acc : Led) : (pre ++ (x :: y :: acc)).Perm (x :: y :: (pre ++ acc)) := List.perm_middle.trans (List.Perm.cons _ List.perm_middle)
theorem perm1 {x y z : Addr × Sh} {acc : Led} : (z :: x :: y :: acc).Perm (x :: y :: z :: acc) := perm2 [z] acc
theorem perm3 {x y z : Addr × Sh} {pre acc : Led} : (z :: (pre ++ x :: y :: acc)).Perm (x :: y :: (z :: pre ++ acc)) := perm2 (z :: pre) acc
theorem kids_out {rk : R4 → Nat} {sc kn : List (Str × Str)} {l : Lvl} {ls : List Lvl} {a o : Str} (ha : OpenOut rk sc kn l a) (h : Outs rk ((.close l :: kids sc l ls).reverse) o) : ElemOut rk sc kn (l :: ls) (a ++ o) := by
  unfold kids at h
  cases ls with
  | nil =>
    refine ⟨a, "", ha, rfl, ?_⟩
    cases e : l.tx with
    | none =>
      rw [e] at h
      refine hide ?_
      intro X_ k_
      first | (refine ex3 h ?_; clear h; rintro x y h1 hr_; first | obtain ⟨rfl, rfl⟩ := hr_) | (refine ex2 h ?_; clear h; rintro x y hr_; first | (refine and3 hr_ ?_; clear hr_; rintro h1 rfl rfl) | obtain ⟨h1, rfl, rfl⟩ := hr_) | (refine ex1 h ?_; clear h; rintro x hr_; first | (refine and4 hr_ ?_; clear hr_; rintro y h1 rfl rfl) | (refine and3 hr_ ?_; clear hr_; rintro y h1 ⟨rfl, rfl⟩) | obtain ⟨y, h1, rfl, rfl⟩ := hr_) | (first | (refine and5 h ?_; clear h; rintro x y h1 rfl rfl) | (refine and4 h ?_; clear h; rintro x y h1 ⟨rfl, rfl⟩) | (refine and3 h ?_; clear h; rintro x y ⟨h1, rfl, rfl⟩) | obtain ⟨x, y, h1, rfl, rfl⟩ := h)
      refine k_ ?_
      clear k_ X_
      have h1' : x = closeOut l := h1
      rw [h1', str_append_empty]
      show _ = a ++ Str.ofString "" ++ Str.ofString "" ++ _
      rw [str_append_empty, str_append_empty]
    | some p =>
      rw [e] at h
      refine hide ?_
      intro X_ k_
      first | (refine ex3 h ?_; clear h; rintro x y h1 hr_; first | obtain ⟨⟨x2, y2, h2, rfl, rfl⟩, rfl⟩ := hr_) | (refine ex2 h ?_; clear h; rintro x y hr_; first | (refine and3 hr_ ?_; clear hr_; rintro h1 ⟨x2, y2, h2, rfl, rfl⟩ rfl) | obtain ⟨h1, ⟨x2, y2, h2, rfl, rfl⟩, rfl⟩ := hr_) | (refine ex1 h ?_; clear h; rintro x hr_; first | (refine and4 hr_ ?_; clear hr_; rintro y h1 ⟨x2, y2, h2, rfl, rfl⟩ rfl) | (refine and3 hr_ ?_; clear hr_; rintro y h1 ⟨⟨x2, y2, h2, rfl, rfl⟩, rfl⟩) | obtain ⟨y, h1, ⟨x2, y2, h2, rfl, rfl⟩, rfl⟩ := hr_) | (first | (refine and5 h ?_; clear h; rintro x y h1 ⟨x2, y2, h2, rfl, rfl⟩ rfl) | (refine and4 h ?_; clear h; rintro x y h1 ⟨⟨x2, y2, h2, rfl, rfl⟩, rfl⟩) | (refine and3 h ?_; clear h; rintro x y ⟨h1, ⟨x2, y2, h2, rfl, rfl⟩, rfl⟩) | obtain ⟨x, y, h1, ⟨x2, y2, h2, rfl, rfl⟩, rfl⟩ := h)
      refine k_ ?_
      clear k_ X_
      have h1' : x = repl p.2 textPairs := h1
      have h2' : x2 = closeOut l := h2
      rw [h1', h2', str_append_empty]
      show _ = a ++ repl p.2 textPairs ++ Str.ofString "" ++ _
      rw [str_append_empty, Str.append_assoc]
  | cons l' r =>
    cases e : l.tx with
    | none =>
      rw [e] at h
      refine hide ?_
      intro X_ k_
      first | (refine ex3 h ?_; clear h; rintro x y h1 hr_; first | obtain ⟨⟨x2, y2, h2, rfl, rfl⟩, rfl⟩ := hr_) | (refine ex2 h ?_; clear h; rintro x y hr_; first | (refine and3 hr_ ?_; clear hr_; rintro h1 ⟨x2, y2, h2, rfl, rfl⟩ rfl) | obtain ⟨h1, ⟨x2, y2, h2, rfl, rfl⟩, rfl⟩ := hr_) | (refine ex1 h ?_; clear h; rintro x hr_; first | (refine and4 hr_ ?_; clear hr_; rintro y h1 ⟨x2, y2, h2, rfl, rfl⟩ rfl) | (refine and3 hr_ ?_; clear hr_; rintro y h1 ⟨⟨x2, y2, h2, rfl, rfl⟩, rfl⟩) | obtain ⟨y, h1, ⟨x2, y2, h2, rfl, rfl⟩, rfl⟩ := hr_) | (first | (refine and5 h ?_; clear h; rintro x y h1 ⟨x2, y2, h2, rfl, rfl⟩ rfl) | (refine and4 h ?_; clear h; rintro x y h1 ⟨⟨x2, y2, h2, rfl, rfl⟩, rfl⟩) | (refine and3 h ?_; clear h; rintro x y ⟨h1, ⟨x2, y2, h2, rfl, rfl⟩, rfl⟩) | obtain ⟨x, y, h1, ⟨x2, y2, h2, rfl, rfl⟩, rfl⟩ := h)
      refine k_ ?_
      clear k_ X_
      have h1' : ElemOut rk (nextSc sc (l' :: r)) sc (l' :: r) x := h1
      have h2' : x2 = closeOut l := h2
      refine ⟨a, x, ha, h1', ?_⟩
      rw [h2', str_append_empty, e]
      show _ = a ++ Str.ofString "" ++ _ ++ _
      rw [str_append_empty, Str.append_assoc]
    | some p =>
      rw [e] at h
      refine hide ?_
      intro X_ k_
      first | (refine ex3 h ?_; clear h; rintro x y h1 hr_; first | obtain ⟨⟨x2, y2, h2, ⟨x3, y3, h3, rfl, rfl⟩, rfl⟩, rfl⟩ := hr_) | (refine ex2 h ?_; clear h; rintro x y hr_; first | (refine and3 hr_ ?_; clear hr_; rintro h1 ⟨x2, y2, h2, ⟨x3, y3, h3, rfl, rfl⟩, rfl⟩ rfl) | obtain ⟨h1, ⟨x2, y2, h2, ⟨x3, y3, h3, rfl, rfl⟩, rfl⟩, rfl⟩ := hr_) | (refine ex1 h ?_; clear h; rintro x hr_; first | (refine and4 hr_ ?_; clear hr_; rintro y h1 ⟨x2, y2, h2, ⟨x3, y3, h3, rfl, rfl⟩, rfl⟩ rfl) | (refine and3 hr_ ?_; clear hr_; rintro y h1 ⟨⟨x2, y2, h2, ⟨x3, y3, h3, rfl, rfl⟩, rfl⟩, rfl⟩) | obtain ⟨y, h1, ⟨x2, y2, h2, ⟨x3, y3, h3, rfl, rfl⟩, rfl⟩, rfl⟩ := hr_) | (first | (refine and5 h ?_; clear h; rintro x y h1 ⟨x2, y2, h2, ⟨x3, y3, h3, rfl, rfl⟩, rfl⟩ rfl) | (refine and4 h ?_; clear h; rintro x y h1 ⟨⟨x2, y2, h2, ⟨x3, y3, h3, rfl, rfl⟩, rfl⟩, rfl⟩) | (refine and3 h ?_; clear h; rintro x y ⟨h1, ⟨x2, y2, h2, ⟨x3, y3, h3, rfl, rfl⟩, rfl⟩, rfl⟩) | obtain ⟨x, y, h1, ⟨x2, y2, h2, ⟨x3, y3, h3, rfl, rfl⟩, rfl⟩, rfl⟩ := h)
      refine k_ ?_
      clear k_ X_
      have h1' : x = repl p.2 textPairs := h1
      have h2' : ElemOut rk (nextSc sc (l' :: r)) sc (l' :: r) x2 := h2
      have h3' : x3 = closeOut l := h3
      refine ⟨a, x2, ha, h2', ?_⟩
      rw [h3', h1', str_append_empty, e]
      show _ = a ++ repl p.2 textPairs ++ _ ++ _
      rw [Str.append_assoc, Str.append_assoc]
end
end Mine
end -- F20d

section -- F20
open PySem PySem.W PySem.Calls PyProof.Rows PySem.Builtin
namespace Mine
section
variable {prog : Program} {w : World} {O : Heap} {A : Around} {P : Params} {mg mb : Str → Option Value} {g : Kn}

--T--
theorem xmlDct (X : Str) (t : Tok) : DctIs [("xml", X)] [(Str.ofString "xml", Value.str X t)] := ⟨⟨rfl, t, rfl⟩, trivial⟩
theorem ex_shown {kx X0 : Str} {tk t0 : Tok} {D : Addr} {mu0 : Led} {R : List (Str × Value) → Led → Prop} (h : ∀ X tX, R [(kx, .str X tX)] mu0) :
    ∃ kvs mu₁, Shown [(.str kx tk, .str X0 t0)] kvs ∧ (D, Sh.dct []) :: mu0 = (D, .dct []) :: mu₁ ∧ R kvs mu₁ := ⟨[(kx, .str X0 t0)], _, ⟨⟨_, rfl⟩, rfl, trivial⟩, rfl, h _ _⟩
theorem element_ok (G : Gnd (hk.heap_1 P) O mg mb) (hA : Amb A 5) {T : TA} {t : List NR} (hT : TreeIs T t) (hg : inG g (treeLed T)) {rk : R4 → Nat} {sc : List (Str × Str)} {l : Lvl} {ls : List Lvl} (hC : ChainOk rk t sc (l :: ls)) (hn : ls.length ≤ 8)
    {sd : Addr} {k1 : List (Str × Value)} (h1 : g sd (.dct k1)) (hD : DctIs sc k1) {te : Tok} {cv : Value} :
    Calls prog w O A (.ref 128) [.ref T.x, .int l.e te, .ref sd, cv] g [] (fun v _ => ∃ X o, ElemOut rk sc [("xml", X)] (l :: ls) o ∧ o.length ≤ 216000 ∧ SV o v) := by
  refine Calls.fn (n := 4) [("comments", cv), ("scope", .ref sd), ("element", .int l.e te), ("tree", .ref T.x)] G hA (by k_is) (by k_is) (fun _ _ => BindsTo.of_eq rfl) (locs rfl) ?_ (by rfl) (by rfl) (by rfl) (by decide)
  intro L s env c hA G
  have hh : c.A.handled = none := hA.handled
  have q1 : (Str.ofString "</").length = 2 := by decide +kernel
  have q2 : (Str.ofString ">").length = 1 := by decide +kernel
  have q3 : (Str.ofString "<").length = 1 := by decide +kernel
  have kT1 := tg1 hg
  have kT2 := tg2 hg
  walk_at "ms"
  walk_at "mdict"
  intro kd
  walk_at "ms"
  refine ex_shown fun X tX => ?_
  rw [merged_one]
  walk_at "ms"
  rename_i fo tx tt lf
  refine w_while (fun n st => ∃ (X : Str) (vs fv : List Value) (its : List Item) (fs : List Str) (acc : Led), st.mu.Perm ((lf, .lst vs) :: (fo, .lst fv) :: acc) ∧ Each (Item.V (fun a sh => g a sh ∨ (a, sh) ∈ acc)) its vs ∧ Each SV fs fv ∧ (∀ it ∈ its, it.Ok rk t) ∧ wts its = n ∧ fs.length + n ≤ 27 ∧
    (∀ s ∈ fs, s.length ≤ 8000) ∧ (∀ o, Outs rk its.reverse o → ElemOut rk sc [("xml", X)] (l :: ls) (catS fs ++ o)) ∧ st.m "left" = some (.ref lf) ∧ st.m "found" = some (.ref fo) ∧ st.m "tree" = some (.ref T.x) ∧ st.m "comments" = some cv) (3 * (ls.length + 1)) ?_ ?_
  · refine ⟨X, [.ref tt], [], [.elem sc [("xml", X)] l ls], [], [(tt, .tup [.int l.e te, .ref sd, .ref kd]), (kd, .dct [("xml", .str X tX)])], List.Perm.cons _ (List.perm_middle (l₁ := [_, _]) (l₂ := [])), ⟨⟨tt, te, sd, kd, k1, [("xml", .str X tX)], rfl, .inr (.head _), .inl h1, .inr (.tail _ (.head _)), hD, xmlDct _ _⟩, trivial⟩, trivial, ?_, ?_, ?_, ?_, ?_, ?_, ?_, ?_, ?_⟩
    · intro it hit
      rw [List.mem_singleton.mp hit]
      exact hC
    · unfold wts; simp [Item.wt]
    · simp; omega
    · intro s h; cases h
    · rintro o h_1
      refine hide ?_
      intro X_ k_
      first | (refine ex3 h_1 ?_; clear h_1; rintro a b h hr_; first | obtain ⟨rfl, rfl⟩ := hr_) | (refine ex2 h_1 ?_; clear h_1; rintro a b hr_; first | (refine and3 hr_ ?_; clear hr_; rintro h rfl rfl) | obtain ⟨h, rfl, rfl⟩ := hr_) | (refine ex1 h_1 ?_; clear h_1; rintro a hr_; first | (refine and4 hr_ ?_; clear hr_; rintro b h rfl rfl) | (refine and3 hr_ ?_; clear hr_; rintro b h ⟨rfl, rfl⟩) | obtain ⟨b, h, rfl, rfl⟩ := hr_) | (first | (refine and5 h_1 ?_; clear h_1; rintro a b h rfl rfl) | (refine and4 h_1 ?_; clear h_1; rintro a b h ⟨rfl, rfl⟩) | (refine and3 h_1 ?_; clear h_1; rintro a b ⟨h, rfl, rfl⟩) | obtain ⟨a, b, h, rfl, rfl⟩ := h_1)
      refine k_ ?_
      clear k_ X_
      rw [catS_nil, str_empty_append]
      rw [show (a ++ ("" : Str)) = a from str_append_empty a]
      exact h
    · walk_at "ml0"
    · walk_at "ml0"
    · walk_at "ml0"
    · walk_at "ml0"
  · rintro n ⟨m, mu⟩ h_2
    refine hide ?_
    intro X_ k_
    first | (refine ex12 h_2 ?_; clear h_2; rintro X vs fv its fs acc hmu hE hF hOk hw hfn hr_; first | (refine and6 hr_ ?_; clear hr_; rintro hfl hO m1 m2 m3 m4) | (refine and5 hr_ ?_; clear hr_; rintro hfl hO m1 m2 ⟨m3, m4⟩) | (refine and4 hr_ ?_; clear hr_; rintro hfl hO m1 ⟨m2, m3, m4⟩) | (refine and3 hr_ ?_; clear hr_; rintro hfl hO ⟨m1, m2, m3, m4⟩) | obtain ⟨hfl, hO, m1, m2, m3, m4⟩ := hr_) | (refine ex11 h_2 ?_; clear h_2; rintro X vs fv its fs acc hmu hE hF hOk hw hr_; first | (refine and7 hr_ ?_; clear hr_; rintro hfn hfl hO m1 m2 m3 m4) | (refine and6 hr_ ?_; clear hr_; rintro hfn hfl hO m1 m2 ⟨m3, m4⟩) | (refine and5 hr_ ?_; clear hr_; rintro hfn hfl hO m1 ⟨m2, m3, m4⟩) | (refine and4 hr_ ?_; clear hr_; rintro hfn hfl hO ⟨m1, m2, m3, m4⟩) | (refine and3 hr_ ?_; clear hr_; rintro hfn hfl ⟨hO, m1, m2, m3, m4⟩) | obtain ⟨hfn, hfl, hO, m1, m2, m3, m4⟩ := hr_) | (refine ex10 h_2 ?_; clear h_2; rintro X vs fv its fs acc hmu hE hF hOk hr_; first | (refine and8 hr_ ?_; clear hr_; rintro hw hfn hfl hO m1 m2 m3 m4) | (refine and7 hr_ ?_; clear hr_; rintro hw hfn hfl hO m1 m2 ⟨m3, m4⟩) | (refine and6 hr_ ?_; clear hr_; rintro hw hfn hfl hO m1 ⟨m2, m3, m4⟩) | (refine and5 hr_ ?_; clear hr_; rintro hw hfn hfl hO ⟨m1, m2, m3, m4⟩) | (refine and4 hr_ ?_; clear hr_; rintro hw hfn hfl ⟨hO, m1, m2, m3, m4⟩) | (refine and3 hr_ ?_; clear hr_; rintro hw hfn ⟨hfl, hO, m1, m2, m3, m4⟩) | obtain ⟨hw, hfn, hfl, hO, m1, m2, m3, m4⟩ := hr_) | (refine ex9 h_2 ?_; clear h_2; rintro X vs fv its fs acc hmu hE hF hr_; first | (refine and9 hr_ ?_; clear hr_; rintro hOk hw hfn hfl hO m1 m2 m3 m4) | (refine and8 hr_ ?_; clear hr_; rintro hOk hw hfn hfl hO m1 m2 ⟨m3, m4⟩) | (refine and7 hr_ ?_; clear hr_; rintro hOk hw hfn hfl hO m1 ⟨m2, m3, m4⟩) | (refine and6 hr_ ?_; clear hr_; rintro hOk hw hfn hfl hO ⟨m1, m2, m3, m4⟩) | (refine and5 hr_ ?_; clear hr_; rintro hOk hw hfn hfl ⟨hO, m1, m2, m3, m4⟩) | (refine and4 hr_ ?_; clear hr_; rintro hOk hw hfn ⟨hfl, hO, m1, m2, m3, m4⟩) | (refine and3 hr_ ?_; clear hr_; rintro hOk hw ⟨hfn, hfl, hO, m1, m2, m3, m4⟩) | obtain ⟨hOk, hw, hfn, hfl, hO, m1, m2, m3, m4⟩ := hr_) | (refine ex8 h_2 ?_; clear h_2; rintro X vs fv its fs acc hmu hE hr_; first | (refine and10 hr_ ?_; clear hr_; rintro hF hOk hw hfn hfl hO m1 m2 m3 m4) | (refine and9 hr_ ?_; clear hr_; rintro hF hOk hw hfn hfl hO m1 m2 ⟨m3, m4⟩) | (refine and8 hr_ ?_; clear hr_; rintro hF hOk hw hfn hfl hO m1 ⟨m2, m3, m4⟩) | (refine and7 hr_ ?_; clear hr_; rintro hF hOk hw hfn hfl hO ⟨m1, m2, m3, m4⟩) | (refine and6 hr_ ?_; clear hr_; rintro hF hOk hw hfn hfl ⟨hO, m1, m2, m3, m4⟩) | (refine and5 hr_ ?_; clear hr_; rintro hF hOk hw hfn ⟨hfl, hO, m1, m2, m3, m4⟩) | (refine and4 hr_ ?_; clear hr_; rintro hF hOk hw ⟨hfn, hfl, hO, m1, m2, m3, m4⟩) | (refine and3 hr_ ?_; clear hr_; rintro hF hOk ⟨hw, hfn, hfl, hO, m1, m2, m3, m4⟩) | obtain ⟨hF, hOk, hw, hfn, hfl, hO, m1, m2, m3, m4⟩ := hr_) | (refine ex7 h_2 ?_; clear h_2; rintro X vs fv its fs acc hmu hr_; first | (refine and11 hr_ ?_; clear hr_; rintro hE hF hOk hw hfn hfl hO m1 m2 m3 m4) | (refine and10 hr_ ?_; clear hr_; rintro hE hF hOk hw hfn hfl hO m1 m2 ⟨m3, m4⟩) | (refine and9 hr_ ?_; clear hr_; rintro hE hF hOk hw hfn hfl hO m1 ⟨m2, m3, m4⟩) | (refine and8 hr_ ?_; clear hr_; rintro hE hF hOk hw hfn hfl hO ⟨m1, m2, m3, m4⟩) | (refine and7 hr_ ?_; clear hr_; rintro hE hF hOk hw hfn hfl ⟨hO, m1, m2, m3, m4⟩) | (refine and6 hr_ ?_; clear hr_; rintro hE hF hOk hw hfn ⟨hfl, hO, m1, m2, m3, m4⟩) | (refine and5 hr_ ?_; clear hr_; rintro hE hF hOk hw ⟨hfn, hfl, hO, m1, m2, m3, m4⟩) | (refine and4 hr_ ?_; clear hr_; rintro hE hF hOk ⟨hw, hfn, hfl, hO, m1, m2, m3, m4⟩) | (refine and3 hr_ ?_; clear hr_; rintro hE hF ⟨hOk, hw, hfn, hfl, hO, m1, m2, m3, m4⟩) | obtain ⟨hE, hF, hOk, hw, hfn, hfl, hO, m1, m2, m3, m4⟩ := hr_) | (refine ex6 h_2 ?_; clear h_2; rintro X vs fv its fs acc hr_; first | (refine and12 hr_ ?_; clear hr_; rintro hmu hE hF hOk hw hfn hfl hO m1 m2 m3 m4) | (refine and11 hr_ ?_; clear hr_; rintro hmu hE hF hOk hw hfn hfl hO m1 m2 ⟨m3, m4⟩) | (refine and10 hr_ ?_; clear hr_; rintro hmu hE hF hOk hw hfn hfl hO m1 ⟨m2, m3, m4⟩) | (refine and9 hr_ ?_; clear hr_; rintro hmu hE hF hOk hw hfn hfl hO ⟨m1, m2, m3, m4⟩) | (refine and8 hr_ ?_; clear hr_; rintro hmu hE hF hOk hw hfn hfl ⟨hO, m1, m2, m3, m4⟩) | (refine and7 hr_ ?_; clear hr_; rintro hmu hE hF hOk hw hfn ⟨hfl, hO, m1, m2, m3, m4⟩) | (refine and6 hr_ ?_; clear hr_; rintro hmu hE hF hOk hw ⟨hfn, hfl, hO, m1, m2, m3, m4⟩) | (refine and5 hr_ ?_; clear hr_; rintro hmu hE hF hOk ⟨hw, hfn, hfl, hO, m1, m2, m3, m4⟩) | (refine and4 hr_ ?_; clear hr_; rintro hmu hE hF ⟨hOk, hw, hfn, hfl, hO, m1, m2, m3, m4⟩) | (refine and3 hr_ ?_; clear hr_; rintro hmu hE ⟨hF, hOk, hw, hfn, hfl, hO, m1, m2, m3, m4⟩) | obtain ⟨hmu, hE, hF, hOk, hw, hfn, hfl, hO, m1, m2, m3, m4⟩ := hr_) | (refine ex5 h_2 ?_; clear h_2; rintro X vs fv its fs hr_; first | (refine and13 hr_ ?_; clear hr_; rintro acc hmu hE hF hOk hw hfn hfl hO m1 m2 m3 m4) | (refine and12 hr_ ?_; clear hr_; rintro acc hmu hE hF hOk hw hfn hfl hO m1 m2 ⟨m3, m4⟩) | (refine and11 hr_ ?_; clear hr_; rintro acc hmu hE hF hOk hw hfn hfl hO m1 ⟨m2, m3, m4⟩) | (refine and10 hr_ ?_; clear hr_; rintro acc hmu hE hF hOk hw hfn hfl hO ⟨m1, m2, m3, m4⟩) | (refine and9 hr_ ?_; clear hr_; rintro acc hmu hE hF hOk hw hfn hfl ⟨hO, m1, m2, m3, m4⟩) | (refine and8 hr_ ?_; clear hr_; rintro acc hmu hE hF hOk hw hfn ⟨hfl, hO, m1, m2, m3, m4⟩) | (refine and7 hr_ ?_; clear hr_; rintro acc hmu hE hF hOk hw ⟨hfn, hfl, hO, m1, m2, m3, m4⟩) | (refine and6 hr_ ?_; clear hr_; rintro acc hmu hE hF hOk ⟨hw, hfn, hfl, hO, m1, m2, m3, m4⟩) | (refine and5 hr_ ?_; clear hr_; rintro acc hmu hE hF ⟨hOk, hw, hfn, hfl, hO, m1, m2, m3, m4⟩) | (refine and4 hr_ ?_; clear hr_; rintro acc hmu hE ⟨hF, hOk, hw, hfn, hfl, hO, m1, m2, m3, m4⟩) | (refine and3 hr_ ?_; clear hr_; rintro acc hmu ⟨hE, hF, hOk, hw, hfn, hfl, hO, m1, m2, m3, m4⟩) | obtain ⟨acc, hmu, hE, hF, hOk, hw, hfn, hfl, hO, m1, m2, m3, m4⟩ := hr_) | (refine ex4 h_2 ?_; clear h_2; rintro X vs fv its hr_; first | (refine and14 hr_ ?_; clear hr_; rintro fs acc hmu hE hF hOk hw hfn hfl hO m1 m2 m3 m4) | (refine and13 hr_ ?_; clear hr_; rintro fs acc hmu hE hF hOk hw hfn hfl hO m1 m2 ⟨m3, m4⟩) | (refine and12 hr_ ?_; clear hr_; rintro fs acc hmu hE hF hOk hw hfn hfl hO m1 ⟨m2, m3, m4⟩) | (refine and11 hr_ ?_; clear hr_; rintro fs acc hmu hE hF hOk hw hfn hfl hO ⟨m1, m2, m3, m4⟩) | (refine and10 hr_ ?_; clear hr_; rintro fs acc hmu hE hF hOk hw hfn hfl ⟨hO, m1, m2, m3, m4⟩) | (refine and9 hr_ ?_; clear hr_; rintro fs acc hmu hE hF hOk hw hfn ⟨hfl, hO, m1, m2, m3, m4⟩) | (refine and8 hr_ ?_; clear hr_; rintro fs acc hmu hE hF hOk hw ⟨hfn, hfl, hO, m1, m2, m3, m4⟩) | (refine and7 hr_ ?_; clear hr_; rintro fs acc hmu hE hF hOk ⟨hw, hfn, hfl, hO, m1, m2, m3, m4⟩) | (refine and6 hr_ ?_; clear hr_; rintro fs acc hmu hE hF ⟨hOk, hw, hfn, hfl, hO, m1, m2, m3, m4⟩) | (refine and5 hr_ ?_; clear hr_; rintro fs acc hmu hE ⟨hF, hOk, hw, hfn, hfl, hO, m1, m2, m3, m4⟩) | (refine and4 hr_ ?_; clear hr_; rintro fs acc hmu ⟨hE, hF, hOk, hw, hfn, hfl, hO, m1, m2, m3, m4⟩) | (refine and3 hr_ ?_; clear hr_; rintro fs acc ⟨hmu, hE, hF, hOk, hw, hfn, hfl, hO, m1, m2, m3, m4⟩) | obtain ⟨fs, acc, hmu, hE, hF, hOk, hw, hfn, hfl, hO, m1, m2, m3, m4⟩ := hr_) | (refine ex3 h_2 ?_; clear h_2; rintro X vs fv hr_; first | (refine and15 hr_ ?_; clear hr_; rintro its fs acc hmu hE hF hOk hw hfn hfl hO m1 m2 m3 m4) | (refine and14 hr_ ?_; clear hr_; rintro its fs acc hmu hE hF hOk hw hfn hfl hO m1 m2 ⟨m3, m4⟩) | (refine and13 hr_ ?_; clear hr_; rintro its fs acc hmu hE hF hOk hw hfn hfl hO m1 ⟨m2, m3, m4⟩) | (refine and12 hr_ ?_; clear hr_; rintro its fs acc hmu hE hF hOk hw hfn hfl hO ⟨m1, m2, m3, m4⟩) | (refine and11 hr_ ?_; clear hr_; rintro its fs acc hmu hE hF hOk hw hfn hfl ⟨hO, m1, m2, m3, m4⟩) | (refine and10 hr_ ?_; clear hr_; rintro its fs acc hmu hE hF hOk hw hfn ⟨hfl, hO, m1, m2, m3, m4⟩) | (refine and9 hr_ ?_; clear hr_; rintro its fs acc hmu hE hF hOk hw ⟨hfn, hfl, hO, m1, m2, m3, m4⟩) | (refine and8 hr_ ?_; clear hr_; rintro its fs acc hmu hE hF hOk ⟨hw, hfn, hfl, hO, m1, m2, m3, m4⟩) | (refine and7 hr_ ?_; clear hr_; rintro its fs acc hmu hE hF ⟨hOk, hw, hfn, hfl, hO, m1, m2, m3, m4⟩) | (refine and6 hr_ ?_; clear hr_; rintro its fs acc hmu hE ⟨hF, hOk, hw, hfn, hfl, hO, m1, m2, m3, m4⟩) | (refine and5 hr_ ?_; clear hr_; rintro its fs acc hmu ⟨hE, hF, hOk, hw, hfn, hfl, hO, m1, m2, m3, m4⟩) | (refine and4 hr_ ?_; clear hr_; rintro its fs acc ⟨hmu, hE, hF, hOk, hw, hfn, hfl, hO, m1, m2, m3, m4⟩) | (refine and3 hr_ ?_; clear hr_; rintro its fs ⟨acc, hmu, hE, hF, hOk, hw, hfn, hfl, hO, m1, m2, m3, m4⟩) | obtain ⟨its, fs, acc, hmu, hE, hF, hOk, hw, hfn, hfl, hO, m1, m2, m3, m4⟩ := hr_) | (refine ex2 h_2 ?_; clear h_2; rintro X vs hr_; first | (refine and16 hr_ ?_; clear hr_; rintro fv its fs acc hmu hE hF hOk hw hfn hfl hO m1 m2 m3 m4) | (refine and15 hr_ ?_; clear hr_; rintro fv its fs acc hmu hE hF hOk hw hfn hfl hO m1 m2 ⟨m3, m4⟩) | (refine and14 hr_ ?_; clear hr_; rintro fv its fs acc hmu hE hF hOk hw hfn hfl hO m1 ⟨m2, m3, m4⟩) | (refine and13 hr_ ?_; clear hr_; rintro fv its fs acc hmu hE hF hOk hw hfn hfl hO ⟨m1, m2, m3, m4⟩) | (refine and12 hr_ ?_; clear hr_; rintro fv its fs acc hmu hE hF hOk hw hfn hfl ⟨hO, m1, m2, m3, m4⟩) | (refine and11 hr_ ?_; clear hr_; rintro fv its fs acc hmu hE hF hOk hw hfn ⟨hfl, hO, m1, m2, m3, m4⟩) | (refine and10 hr_ ?_; clear hr_; rintro fv its fs acc hmu hE hF hOk hw ⟨hfn, hfl, hO, m1, m2, m3, m4⟩) | (refine and9 hr_ ?_; clear hr_; rintro fv its fs acc hmu hE hF hOk ⟨hw, hfn, hfl, hO, m1, m2, m3, m4⟩) | (refine and8 hr_ ?_; clear hr_; rintro fv its fs acc hmu hE hF ⟨hOk, hw, hfn, hfl, hO, m1, m2, m3, m4⟩) | (refine and7 hr_ ?_; clear hr_; rintro fv its fs acc hmu hE ⟨hF, hOk, hw, hfn, hfl, hO, m1, m2, m3, m4⟩) | (refine and6 hr_ ?_; clear hr_; rintro fv its fs acc hmu ⟨hE, hF, hOk, hw, hfn, hfl, hO, m1, m2, m3, m4⟩) | (refine and5 hr_ ?_; clear hr_; rintro fv its fs acc ⟨hmu, hE, hF, hOk, hw, hfn, hfl, hO, m1, m2, m3, m4⟩) | (refine and4 hr_ ?_; clear hr_; rintro fv its fs ⟨acc, hmu, hE, hF, hOk, hw, hfn, hfl, hO, m1, m2, m3, m4⟩) | (refine and3 hr_ ?_; clear hr_; rintro fv its ⟨fs, acc, hmu, hE, hF, hOk, hw, hfn, hfl, hO, m1, m2, m3, m4⟩) | obtain ⟨fv, its, fs, acc, hmu, hE, hF, hOk, hw, hfn, hfl, hO, m1, m2, m3, m4⟩ := hr_) | (refine ex1 h_2 ?_; clear h_2; rintro X hr_; first | (refine and16 hr_ ?_; clear hr_; rintro vs fv its fs acc hmu hE hF hOk hw hfn hfl hO m1 m2 ⟨m3, m4⟩) | (refine and15 hr_ ?_; clear hr_; rintro vs fv its fs acc hmu hE hF hOk hw hfn hfl hO m1 ⟨m2, m3, m4⟩) | (refine and14 hr_ ?_; clear hr_; rintro vs fv its fs acc hmu hE hF hOk hw hfn hfl hO ⟨m1, m2, m3, m4⟩) | (refine and13 hr_ ?_; clear hr_; rintro vs fv its fs acc hmu hE hF hOk hw hfn hfl ⟨hO, m1, m2, m3, m4⟩) | (refine and12 hr_ ?_; clear hr_; rintro vs fv its fs acc hmu hE hF hOk hw hfn ⟨hfl, hO, m1, m2, m3, m4⟩) | (refine and11 hr_ ?_; clear hr_; rintro vs fv its fs acc hmu hE hF hOk hw ⟨hfn, hfl, hO, m1, m2, m3, m4⟩) | (refine and10 hr_ ?_; clear hr_; rintro vs fv its fs acc hmu hE hF hOk ⟨hw, hfn, hfl, hO, m1, m2, m3, m4⟩) | (refine and9 hr_ ?_; clear hr_; rintro vs fv its fs acc hmu hE hF ⟨hOk, hw, hfn, hfl, hO, m1, m2, m3, m4⟩) | (refine and8 hr_ ?_; clear hr_; rintro vs fv its fs acc hmu hE ⟨hF, hOk, hw, hfn, hfl, hO, m1, m2, m3, m4⟩) | (refine and7 hr_ ?_; clear hr_; rintro vs fv its fs acc hmu ⟨hE, hF, hOk, hw, hfn, hfl, hO, m1, m2, m3, m4⟩) | (refine and6 hr_ ?_; clear hr_; rintro vs fv its fs acc ⟨hmu, hE, hF, hOk, hw, hfn, hfl, hO, m1, m2, m3, m4⟩) | (refine and5 hr_ ?_; clear hr_; rintro vs fv its fs ⟨acc, hmu, hE, hF, hOk, hw, hfn, hfl, hO, m1, m2, m3, m4⟩) | (refine and4 hr_ ?_; clear hr_; rintro vs fv its ⟨fs, acc, hmu, hE, hF, hOk, hw, hfn, hfl, hO, m1, m2, m3, m4⟩) | (refine and3 hr_ ?_; clear hr_; rintro vs fv ⟨its, fs, acc, hmu, hE, hF, hOk, hw, hfn, hfl, hO, m1, m2, m3, m4⟩) | obtain ⟨vs, fv, its, fs, acc, hmu, hE, hF, hOk, hw, hfn, hfl, hO, m1, m2, m3, m4⟩ := hr_) | (first | (refine and16 h_2 ?_; clear h_2; rintro X vs fv its fs acc hmu hE hF hOk hw hfn hfl hO m1 ⟨m2, m3, m4⟩) | (refine and15 h_2 ?_; clear h_2; rintro X vs fv its fs acc hmu hE hF hOk hw hfn hfl hO ⟨m1, m2, m3, m4⟩) | (refine and14 h_2 ?_; clear h_2; rintro X vs fv its fs acc hmu hE hF hOk hw hfn hfl ⟨hO, m1, m2, m3, m4⟩) | (refine and13 h_2 ?_; clear h_2; rintro X vs fv its fs acc hmu hE hF hOk hw hfn ⟨hfl, hO, m1, m2, m3, m4⟩) | (refine and12 h_2 ?_; clear h_2; rintro X vs fv its fs acc hmu hE hF hOk hw ⟨hfn, hfl, hO, m1, m2, m3, m4⟩) | (refine and11 h_2 ?_; clear h_2; rintro X vs fv its fs acc hmu hE hF hOk ⟨hw, hfn, hfl, hO, m1, m2, m3, m4⟩) | (refine and10 h_2 ?_; clear h_2; rintro X vs fv its fs acc hmu hE hF ⟨hOk, hw, hfn, hfl, hO, m1, m2, m3, m4⟩) | (refine and9 h_2 ?_; clear h_2; rintro X vs fv its fs acc hmu hE ⟨hF, hOk, hw, hfn, hfl, hO, m1, m2, m3, m4⟩) | (refine and8 h_2 ?_; clear h_2; rintro X vs fv its fs acc hmu ⟨hE, hF, hOk, hw, hfn, hfl, hO, m1, m2, m3, m4⟩) | (refine and7 h_2 ?_; clear h_2; rintro X vs fv its fs acc ⟨hmu, hE, hF, hOk, hw, hfn, hfl, hO, m1, m2, m3, m4⟩) | (refine and6 h_2 ?_; clear h_2; rintro X vs fv its fs ⟨acc, hmu, hE, hF, hOk, hw, hfn, hfl, hO, m1, m2, m3, m4⟩) | (refine and5 h_2 ?_; clear h_2; rintro X vs fv its ⟨fs, acc, hmu, hE, hF, hOk, hw, hfn, hfl, hO, m1, m2, m3, m4⟩) | (refine and4 h_2 ?_; clear h_2; rintro X vs fv ⟨its, fs, acc, hmu, hE, hF, hOk, hw, hfn, hfl, hO, m1, m2, m3, m4⟩) | (refine and3 h_2 ?_; clear h_2; rintro X vs ⟨fv, its, fs, acc, hmu, hE, hF, hOk, hw, hfn, hfl, hO, m1, m2, m3, m4⟩) | obtain ⟨X, vs, fv, its, fs, acc, hmu, hE, hF, hOk, hw, hfn, hfl, hO, m1, m2, m3, m4⟩ := h_2)
    refine k_ ?_
    clear k_ X_
    dsimp only at m1 m2 m3 m4 hmu
    refine w_turn _ hmu ?_
    clear hmu
    walk_at "ms"
    rename_i nb
    have hvl := hE.len
    have hil : its.length ≤ n := by
      rw [← hw]; unfold wts
      clear hE hO hw hvl
      induction its with
      | nil => simp
      | cons it r ih =>
        have := ih fun x hx => hOk x (.tail _ hx)
        rw [List.map_cons, List.sum_cons, List.length_cons]
        have : 1 ≤ it.wt := by cases it <;> simp [Item.wt] <;> omega
        omega
    refine w_neNil hA (.inl (kn_mu (.tail _ (.head _)))) (kn_mu (.head _)) ?_
    walk_at "ms"
    cases hvs : vs.reverse with
    | nil =>
      have hv0 : vs = [] := by simpa using hvs
      subst hv0
      refine Br.ff (by rfl) ?_
      walk_at "ms"
      refine w_joinE (kn_mu (.tail _ (.tail _ (.head _)))) hF (joinFew 8000 27 hfl (by omega) (by decide)) fun t' => ?_
      have hi0 := each_nil hE
      subst hi0
      have := hO "" rfl
      rw [show (catS fs ++ ("" : Str)) = catS fs from str_append_empty _] at this
      have hcl := catS_len fs
      have hcl2 := sum_le_of hfl
      have hcl3 := hF.len
      exact ⟨X, catS fs, this, by omega, t', rfl⟩
    | cons y rv =>
      have hv1 : vs = rv.reverse ++ [y] := by
        have := congrArg List.reverse hvs
        simpa using this
      generalize rv.reverse = pv at hv1
      subst hv1
      refine hide ?_
      intro X_ k_
      first | (refine ex2 (each_last hE) ?_; rintro ip it hr_; first | (refine and3 hr_ ?_; clear hr_; rintro rfl hEp hE1) | obtain ⟨rfl, hEp, hE1⟩ := hr_) | (refine ex1 (each_last hE) ?_; rintro ip hr_; first | (refine and4 hr_ ?_; clear hr_; rintro it rfl hEp hE1) | (refine and3 hr_ ?_; clear hr_; rintro it rfl ⟨hEp, hE1⟩) | obtain ⟨it, rfl, hEp, hE1⟩ := hr_) | (first | (refine and5 (each_last hE) ?_; rintro ip it rfl hEp hE1) | (refine and4 (each_last hE) ?_; rintro ip it rfl ⟨hEp, hE1⟩) | (refine and3 (each_last hE) ?_; rintro ip it ⟨rfl, hEp, hE1⟩) | obtain ⟨ip, it, rfl, hEp, hE1⟩ := (each_last hE))
      refine k_ ?_
      clear k_ X_
      refine Br.tt (by simp) ?_
      rw [List.reverse_append] at hO
      have hO' : ∀ a o, it.Out rk a → Outs rk ip.reverse o → ElemOut rk sc [("xml", X)] (l :: ls) (catS fs ++ (a ++ o)) := fun a o ha ho => hO _ ⟨a, o, ha, ho, rfl⟩
      have hOkp : ∀ x ∈ ip, x.Ok rk t := fun x hx => hOk x (List.mem_append_left _ hx)
      have hOk1 : it.Ok rk t := hOk it (List.mem_append_right _ (.head _))
      rw [wts_append] at hw
      have hw1 : wts [it] = it.wt := by unfold wts; simp
      have hpl := hEp.len
      rw [List.length_append] at hil hvl
      have hfl' := hF.len
      clear hO hOk hE hvl
      walk_at "ms"
      refine w_assignTup ?_ (by rfl) (by rfl)
      walk_at "ms"
      walk_at "ml_pop"
      walk_at "ms"
      refine w_pop (p := pv) (y := y) (Up.tail Up.head) (by rw [List.length_append, sizeLine_eq]; simp; omega) ?_
      cases it with
      | close l' =>
        refine hide ?_
        intro X_ k_
        first | (refine ex2 hE1 ?_; clear hE1; rintro a t1 hr_; first | obtain ⟨rfl, hK⟩ := hr_) | (refine ex1 hE1 ?_; clear hE1; rintro a hr_; first | (refine and3 hr_ ?_; clear hr_; rintro t1 rfl hK) | obtain ⟨t1, rfl, hK⟩ := hr_) | (first | (refine and4 hE1 ?_; clear hE1; rintro a t1 rfl hK) | (refine and3 hE1 ?_; clear hE1; rintro a t1 ⟨rfl, hK⟩) | obtain ⟨a, t1, rfl, hK⟩ := hE1)
        refine k_ ?_
        clear k_ X_
        refine hide ?_
        intro X_ k_
        first | (refine ex3 hOk1 ?_; clear hOk1; rintro hnm nr hnr hnn) | (refine ex2 hOk1 ?_; clear hOk1; rintro hnm nr hr_; first | obtain ⟨hnr, hnn⟩ := hr_) | (refine ex1 hOk1 ?_; clear hOk1; rintro hnm hr_; first | (refine and3 hr_ ?_; clear hr_; rintro nr hnr hnn) | obtain ⟨nr, hnr, hnn⟩ := hr_) | (first | (refine and4 hOk1 ?_; clear hOk1; rintro hnm nr hnr hnn) | (refine and3 hOk1 ?_; clear hOk1; rintro hnm nr ⟨hnr, hnn⟩) | obtain ⟨hnm, nr, hnr, hnn⟩ := hOk1)
        refine k_ ?_
        clear k_ X_
        refine w_asTup (hK.elim .inl fun h => .inr (.tail _ (.tail _ (.tail _ h)))) ?_ (by rfl) (by rfl) hh
        walk_at "ms"
        refine Br.tt (by rfl) ?_
        walk_at "ms"
        refine m_list_append (kn_mu (.tail _ (.tail _ (.head _)))) ?_
        walk_at "ms"
        walk_at "mmeth"
        walk_at "ms"
        refine w_callPure _ (fun g' h1 h2 => name_ok G hA.le hT (hg.mono h1) hnr) ?_
        rintro _ ⟨t2, rfl⟩
        rw [hnn]
        walk_at "ms"
        refine w_addStr (fun _ => ?_) (by omega)
        walk_at "ms"
        refine w_addStr (fun _ => ?_) (by simp only [strLen_add]; omega)
        walk_at "ms"
        refine w_append (vs := fv) (Up.tail (Up.tail Up.head)) (by rw [sizeLine_eq]; omega) ?_
        refine Seq.next ?_
        walk_at "ms"
        have hw2 : (Item.close l').wt = 1 := rfl
        refine ⟨wts ip, by omega, X, pv, _, ip, fs ++ [closeOut l'], (nb, .lst []) :: acc, (List.perm_middle (l₁ := [_, _]) (l₂ := acc)).symm, hEp.mono (Item.V.mono fun a sh h => h.imp id fun h => .tail _ h), hF.snoc ⟨_, rfl⟩, hOkp, rfl, by rw [List.length_append]; simp; omega, ?_, ?_, ?_, ?_, ?_, ?_⟩
        · intro x hx
          rcases List.mem_append.mp hx with hx | hx
          · exact hfl x hx
          · rw [List.mem_singleton.mp hx]
            unfold closeOut
            simp only [strLen_add]
            omega
        · intro o ho
          rw [catS_append, catS_one, Str.append_assoc]
          exact hO' _ _ rfl ho
        · walk_at "ml0"
        · walk_at "ml0"
        · walk_at "ml0"
        · walk_at "ml0"
      | text k x =>
        refine hide ?_
        intro X_ k_
        first | (refine ex4 hE1 ?_; clear hE1; rintro a t1 sd' kd' hr_; first | obtain ⟨rfl, hK⟩ := hr_) | (refine ex3 hE1 ?_; clear hE1; rintro a t1 sd' hr_; first | (refine and3 hr_ ?_; clear hr_; rintro kd' rfl hK) | obtain ⟨kd', rfl, hK⟩ := hr_) | (refine ex2 hE1 ?_; clear hE1; rintro a t1 hr_; first | (refine and4 hr_ ?_; clear hr_; rintro sd' kd' rfl hK) | (refine and3 hr_ ?_; clear hr_; rintro sd' kd' ⟨rfl, hK⟩) | obtain ⟨sd', kd', rfl, hK⟩ := hr_) | (refine ex1 hE1 ?_; clear hE1; rintro a hr_; first | (refine and5 hr_ ?_; clear hr_; rintro t1 sd' kd' rfl hK) | (refine and4 hr_ ?_; clear hr_; rintro t1 sd' kd' ⟨rfl, hK⟩) | (refine and3 hr_ ?_; clear hr_; rintro t1 sd' ⟨kd', rfl, hK⟩) | obtain ⟨t1, sd', kd', rfl, hK⟩ := hr_) | (first | (refine and6 hE1 ?_; clear hE1; rintro a t1 sd' kd' rfl hK) | (refine and5 hE1 ?_; clear hE1; rintro a t1 sd' kd' ⟨rfl, hK⟩) | (refine and4 hE1 ?_; clear hE1; rintro a t1 sd' ⟨kd', rfl, hK⟩) | (refine and3 hE1 ?_; clear hE1; rintro a t1 ⟨sd', kd', rfl, hK⟩) | obtain ⟨a, t1, sd', kd', rfl, hK⟩ := hE1)
        refine k_ ?_
        clear k_ X_
        refine hide ?_
        intro X_ k_
        first | (refine ex5 hOk1 ?_; clear hOk1; rintro nk hnk hkk hkv hok hlx) | (refine ex4 hOk1 ?_; clear hOk1; rintro nk hnk hkk hkv hr_; first | obtain ⟨hok, hlx⟩ := hr_) | (refine ex3 hOk1 ?_; clear hOk1; rintro nk hnk hkk hr_; first | (refine and3 hr_ ?_; clear hr_; rintro hkv hok hlx) | obtain ⟨hkv, hok, hlx⟩ := hr_) | (refine ex2 hOk1 ?_; clear hOk1; rintro nk hnk hr_; first | (refine and4 hr_ ?_; clear hr_; rintro hkk hkv hok hlx) | (refine and3 hr_ ?_; clear hr_; rintro hkk hkv ⟨hok, hlx⟩) | obtain ⟨hkk, hkv, hok, hlx⟩ := hr_) | (refine ex1 hOk1 ?_; clear hOk1; rintro nk hr_; first | (refine and5 hr_ ?_; clear hr_; rintro hnk hkk hkv hok hlx) | (refine and4 hr_ ?_; clear hr_; rintro hnk hkk hkv ⟨hok, hlx⟩) | (refine and3 hr_ ?_; clear hr_; rintro hnk hkk ⟨hkv, hok, hlx⟩) | obtain ⟨hnk, hkk, hkv, hok, hlx⟩ := hr_) | (first | (refine and6 hOk1 ?_; clear hOk1; rintro nk hnk hkk hkv hok hlx) | (refine and5 hOk1 ?_; clear hOk1; rintro nk hnk hkk hkv ⟨hok, hlx⟩) | (refine and4 hOk1 ?_; clear hOk1; rintro nk hnk hkk ⟨hkv, hok, hlx⟩) | (refine and3 hOk1 ?_; clear hOk1; rintro nk hnk ⟨hkk, hkv, hok, hlx⟩) | obtain ⟨nk, hnk, hkk, hkv, hok, hlx⟩ := hOk1)
        refine k_ ?_
        clear k_ X_
        refine w_asTup (hK.elim .inl fun h => .inr (.tail _ (.tail _ (.tail _ h)))) ?_ (by rfl) (by rfl) hh
        walk_at "ms"
        refine Br.ff (by rfl) ?_
        walk_at "ms"
        walk_at "mmeth"
        walk_at "ms"
        refine w_callPure _ (fun g' h1 h2 => kind_ok G hA.le hT (hg.mono h1) hnk) ?_
        rintro _ ⟨t2, rfl⟩
        rw [hkk]
        walk_at "ms"
        refine Br.tt (by decide +kernel) ?_
        walk_at "ms"
        refine m_list_append (kn_mu (.tail _ (.tail _ (.head _)))) ?_
        walk_at "ms"
        refine w_callPure _ (fun g' h1 h2 => leaf_ok G hA.le hT (hg.mono h1) hnk hkk (by rw [hkv]; exact hok)) ?_
        rintro _ ⟨t3, rfl⟩
        rw [hkv]
        walk_at "ms"
        refine w_append (vs := fv) (Up.tail (Up.tail Up.head)) (by rw [sizeLine_eq]; omega) ?_
        refine Seq.next ?_
        walk_at "ms"
        have hw2 : (Item.text k x).wt = 1 := rfl
        refine ⟨wts ip, by omega, X, pv, _, ip, fs ++ [repl x textPairs], (nb, .lst []) :: acc, (List.perm_middle (l₁ := [_, _]) (l₂ := acc)).symm, hEp.mono (Item.V.mono fun a sh h => h.imp id fun h => .tail _ h), hF.snoc ⟨_, rfl⟩, hOkp, rfl, by rw [List.length_append]; simp; omega, ?_, ?_, ?_, ?_, ?_, ?_⟩
        · intro x hx
          rcases List.mem_append.mp hx with hx | hx
          · exact hfl x hx
          · rw [List.mem_singleton.mp hx]
            omega
        · intro o ho
          rw [catS_append, catS_one, Str.append_assoc]
          exact hO' _ _ rfl ho
        · walk_at "ml0"
        · walk_at "ml0"
        · walk_at "ml0"
        · walk_at "ml0"
      | elem sc' kn' l' ls' =>
        refine hide ?_
        intro X_ k_
        first | (refine ex6 hE1 ?_; clear hE1; rintro a t1 sd' kd' k1' k2' hr_; first | (refine and6 hr_ ?_; clear hr_; rintro rfl hK hS hN hD1 hD2) | (refine and5 hr_ ?_; clear hr_; rintro rfl hK hS hN ⟨hD1, hD2⟩) | (refine and4 hr_ ?_; clear hr_; rintro rfl hK hS ⟨hN, hD1, hD2⟩) | (refine and3 hr_ ?_; clear hr_; rintro rfl hK ⟨hS, hN, hD1, hD2⟩) | obtain ⟨rfl, hK, hS, hN, hD1, hD2⟩ := hr_) | (refine ex5 hE1 ?_; clear hE1; rintro a t1 sd' kd' k1' hr_; first | (refine and7 hr_ ?_; clear hr_; rintro k2' rfl hK hS hN hD1 hD2) | (refine and6 hr_ ?_; clear hr_; rintro k2' rfl hK hS hN ⟨hD1, hD2⟩) | (refine and5 hr_ ?_; clear hr_; rintro k2' rfl hK hS ⟨hN, hD1, hD2⟩) | (refine and4 hr_ ?_; clear hr_; rintro k2' rfl hK ⟨hS, hN, hD1, hD2⟩) | (refine and3 hr_ ?_; clear hr_; rintro k2' rfl ⟨hK, hS, hN, hD1, hD2⟩) | obtain ⟨k2', rfl, hK, hS, hN, hD1, hD2⟩ := hr_) | (refine ex4 hE1 ?_; clear hE1; rintro a t1 sd' kd' hr_; first | (refine and8 hr_ ?_; clear hr_; rintro k1' k2' rfl hK hS hN hD1 hD2) | (refine and7 hr_ ?_; clear hr_; rintro k1' k2' rfl hK hS hN ⟨hD1, hD2⟩) | (refine and6 hr_ ?_; clear hr_; rintro k1' k2' rfl hK hS ⟨hN, hD1, hD2⟩) | (refine and5 hr_ ?_; clear hr_; rintro k1' k2' rfl hK ⟨hS, hN, hD1, hD2⟩) | (refine and4 hr_ ?_; clear hr_; rintro k1' k2' rfl ⟨hK, hS, hN, hD1, hD2⟩) | (refine and3 hr_ ?_; clear hr_; rintro k1' k2' ⟨rfl, hK, hS, hN, hD1, hD2⟩) | obtain ⟨k1', k2', rfl, hK, hS, hN, hD1, hD2⟩ := hr_) | (refine ex3 hE1 ?_; clear hE1; rintro a t1 sd' hr_; first | (refine and9 hr_ ?_; clear hr_; rintro kd' k1' k2' rfl hK hS hN hD1 hD2) | (refine and8 hr_ ?_; clear hr_; rintro kd' k1' k2' rfl hK hS hN ⟨hD1, hD2⟩) | (refine and7 hr_ ?_; clear hr_; rintro kd' k1' k2' rfl hK hS ⟨hN, hD1, hD2⟩) | (refine and6 hr_ ?_; clear hr_; rintro kd' k1' k2' rfl hK ⟨hS, hN, hD1, hD2⟩) | (refine and5 hr_ ?_; clear hr_; rintro kd' k1' k2' rfl ⟨hK, hS, hN, hD1, hD2⟩) | (refine and4 hr_ ?_; clear hr_; rintro kd' k1' k2' ⟨rfl, hK, hS, hN, hD1, hD2⟩) | (refine and3 hr_ ?_; clear hr_; rintro kd' k1' ⟨k2', rfl, hK, hS, hN, hD1, hD2⟩) | obtain ⟨kd', k1', k2', rfl, hK, hS, hN, hD1, hD2⟩ := hr_) | (refine ex2 hE1 ?_; clear hE1; rintro a t1 hr_; first | (refine and10 hr_ ?_; clear hr_; rintro sd' kd' k1' k2' rfl hK hS hN hD1 hD2) | (refine and9 hr_ ?_; clear hr_; rintro sd' kd' k1' k2' rfl hK hS hN ⟨hD1, hD2⟩) | (refine and8 hr_ ?_; clear hr_; rintro sd' kd' k1' k2' rfl hK hS ⟨hN, hD1, hD2⟩) | (refine and7 hr_ ?_; clear hr_; rintro sd' kd' k1' k2' rfl hK ⟨hS, hN, hD1, hD2⟩) | (refine and6 hr_ ?_; clear hr_; rintro sd' kd' k1' k2' rfl ⟨hK, hS, hN, hD1, hD2⟩) | (refine and5 hr_ ?_; clear hr_; rintro sd' kd' k1' k2' ⟨rfl, hK, hS, hN, hD1, hD2⟩) | (refine and4 hr_ ?_; clear hr_; rintro sd' kd' k1' ⟨k2', rfl, hK, hS, hN, hD1, hD2⟩) | (refine and3 hr_ ?_; clear hr_; rintro sd' kd' ⟨k1', k2', rfl, hK, hS, hN, hD1, hD2⟩) | obtain ⟨sd', kd', k1', k2', rfl, hK, hS, hN, hD1, hD2⟩ := hr_) | (refine ex1 hE1 ?_; clear hE1; rintro a hr_; first | (refine and11 hr_ ?_; clear hr_; rintro t1 sd' kd' k1' k2' rfl hK hS hN hD1 hD2) | (refine and10 hr_ ?_; clear hr_; rintro t1 sd' kd' k1' k2' rfl hK hS hN ⟨hD1, hD2⟩) | (refine and9 hr_ ?_; clear hr_; rintro t1 sd' kd' k1' k2' rfl hK hS ⟨hN, hD1, hD2⟩) | (refine and8 hr_ ?_; clear hr_; rintro t1 sd' kd' k1' k2' rfl hK ⟨hS, hN, hD1, hD2⟩) | (refine and7 hr_ ?_; clear hr_; rintro t1 sd' kd' k1' k2' rfl ⟨hK, hS, hN, hD1, hD2⟩) | (refine and6 hr_ ?_; clear hr_; rintro t1 sd' kd' k1' k2' ⟨rfl, hK, hS, hN, hD1, hD2⟩) | (refine and5 hr_ ?_; clear hr_; rintro t1 sd' kd' k1' ⟨k2', rfl, hK, hS, hN, hD1, hD2⟩) | (refine and4 hr_ ?_; clear hr_; rintro t1 sd' kd' ⟨k1', k2', rfl, hK, hS, hN, hD1, hD2⟩) | (refine and3 hr_ ?_; clear hr_; rintro t1 sd' ⟨kd', k1', k2', rfl, hK, hS, hN, hD1, hD2⟩) | obtain ⟨t1, sd', kd', k1', k2', rfl, hK, hS, hN, hD1, hD2⟩ := hr_) | (first | (refine and12 hE1 ?_; clear hE1; rintro a t1 sd' kd' k1' k2' rfl hK hS hN hD1 hD2) | (refine and11 hE1 ?_; clear hE1; rintro a t1 sd' kd' k1' k2' rfl hK hS hN ⟨hD1, hD2⟩) | (refine and10 hE1 ?_; clear hE1; rintro a t1 sd' kd' k1' k2' rfl hK hS ⟨hN, hD1, hD2⟩) | (refine and9 hE1 ?_; clear hE1; rintro a t1 sd' kd' k1' k2' rfl hK ⟨hS, hN, hD1, hD2⟩) | (refine and8 hE1 ?_; clear hE1; rintro a t1 sd' kd' k1' k2' rfl ⟨hK, hS, hN, hD1, hD2⟩) | (refine and7 hE1 ?_; clear hE1; rintro a t1 sd' kd' k1' k2' ⟨rfl, hK, hS, hN, hD1, hD2⟩) | (refine and6 hE1 ?_; clear hE1; rintro a t1 sd' kd' k1' ⟨k2', rfl, hK, hS, hN, hD1, hD2⟩) | (refine and5 hE1 ?_; clear hE1; rintro a t1 sd' kd' ⟨k1', k2', rfl, hK, hS, hN, hD1, hD2⟩) | (refine and4 hE1 ?_; clear hE1; rintro a t1 sd' ⟨kd', k1', k2', rfl, hK, hS, hN, hD1, hD2⟩) | (refine and3 hE1 ?_; clear hE1; rintro a t1 ⟨sd', kd', k1', k2', rfl, hK, hS, hN, hD1, hD2⟩) | obtain ⟨a, t1, sd', kd', k1', k2', rfl, hK, hS, hN, hD1, hD2⟩ := hE1)
        refine k_ ?_
        clear k_ X_
        refine w_asTup (hK.elim .inl fun h => .inr (.tail _ (.tail _ (.tail _ h)))) ?_ (by rfl) (by rfl) hh
        walk_at "ms"
        refine Br.ff (by rfl) ?_
        walk_at "ms"
        have hC' : ChainOk rk t sc' (l' :: ls') := hOk1
        obtain ⟨hSB, hLv, hC2⟩ := id hC'
        refine hide ?_
        intro X_ k_
        first | (refine ex4 (hLv.row) ?_; rintro nr hnr hnk hnn hnc) | (refine ex3 (hLv.row) ?_; rintro nr hnr hnk hr_; first | obtain ⟨hnn, hnc⟩ := hr_) | (refine ex2 (hLv.row) ?_; rintro nr hnr hr_; first | (refine and3 hr_ ?_; clear hr_; rintro hnk hnn hnc) | obtain ⟨hnk, hnn, hnc⟩ := hr_) | (refine ex1 (hLv.row) ?_; rintro nr hr_; first | (refine and4 hr_ ?_; clear hr_; rintro hnr hnk hnn hnc) | (refine and3 hr_ ?_; clear hr_; rintro hnr hnk ⟨hnn, hnc⟩) | obtain ⟨hnr, hnk, hnn, hnc⟩ := hr_) | (first | (refine and5 (hLv.row) ?_; rintro nr hnr hnk hnn hnc) | (refine and4 (hLv.row) ?_; rintro nr hnr hnk ⟨hnn, hnc⟩) | (refine and3 (hLv.row) ?_; rintro nr hnr ⟨hnk, hnn, hnc⟩) | obtain ⟨nr, hnr, hnk, hnn, hnc⟩ := (hLv.row))
        refine k_ ?_
        clear k_ X_
        have hnm := hLv.nm
        walk_at "mmeth"
        walk_at "ms"
        refine w_callPure _ (fun g' h1 h2 => kind_ok G hA.le hT (hg.mono h1) hnr) ?_
        rintro _ ⟨t2, rfl⟩
        rw [hnk]
        walk_at "ms"
        refine Br.ff (by decide +kernel) ?_
        walk_at "ms"
        refine m_list_append (kn_mu (.tail _ (.tail _ (.head _)))) ?_
        walk_at "ms"
        walk_at "mmeth"
        walk_at "ms"
        refine w_callPure _ (fun g' h1 h2 => name_ok G hA.le hT (hg.mono h1) hnr) ?_
        rintro _ ⟨t3, rfl⟩
        rw [hnn]
        walk_at "ms"
        refine w_addStr (fun _ => ?_) (by omega)
        walk_at "ms"
        refine w_callPure _ (fun g' h1 h2 => told_ok G hA.le (hS.elim (fun h => h1 _ _ h) fun h => h2 (_, _) (.tail _ (.tail _ (.tail _ h)))) (hN.elim (fun h => h1 _ _ h) fun h => h2 (_, _) (.tail _ (.tail _ (.tail _ h)))) hD1 hD2 hSB) ?_
        rintro _ h_1
        refine hide ?_
        intro X_ k_
        first | (refine ex4 h_1 ?_; clear h_1; rintro ss hss1 hss2 t4 rfl) | (refine ex3 h_1 ?_; clear h_1; rintro ss hss1 hss2 hr_; first | obtain ⟨t4, rfl⟩ := hr_) | (refine ex2 h_1 ?_; clear h_1; rintro ss hss1 hr_; first | (refine and3 hr_ ?_; clear hr_; rintro hss2 t4 rfl) | obtain ⟨hss2, t4, rfl⟩ := hr_) | (refine ex1 h_1 ?_; clear h_1; rintro ss hr_; first | (refine and4 hr_ ?_; clear hr_; rintro hss1 hss2 t4 rfl) | (refine and3 hr_ ?_; clear hr_; rintro hss1 hss2 ⟨t4, rfl⟩) | obtain ⟨hss1, hss2, t4, rfl⟩ := hr_) | (first | (refine and5 h_1 ?_; clear h_1; rintro ss hss1 hss2 t4 rfl) | (refine and4 h_1 ?_; clear h_1; rintro ss hss1 hss2 ⟨t4, rfl⟩) | (refine and3 h_1 ?_; clear h_1; rintro ss hss1 ⟨hss2, t4, rfl⟩) | obtain ⟨ss, hss1, hss2, t4, rfl⟩ := h_1)
        refine k_ ?_
        clear k_ X_
        have hsl : (toldNames sc' kn' ss).length ≤ 3010 := by
          have := toldNames_len (kn' := kn') hSB (ks := ss) fun q hq => hss1.mem_iff.mp hq
          have h3 := hss1.length_eq
          have h4 := hSB.len
          rw [List.length_map] at h3
          omega
        walk_at "ms"
        refine w_addStr (fun _ => ?_) (by simp only [strLen_add]; omega)
        walk_at "ms"
        refine w_callPure _ (fun g' h1 h2 => tattrs_ok G hA.le hT (hg.mono h1) hLv.at' hLv.atl hLv.atb hLv.rko) ?_
        rintro _ h_1
        refine hide ?_
        intro X_ k_
        first | (refine ex4 h_1 ?_; clear h_1; rintro out ho1 ho2 t5 rfl) | (refine ex3 h_1 ?_; clear h_1; rintro out ho1 ho2 hr_; first | obtain ⟨t5, rfl⟩ := hr_) | (refine ex2 h_1 ?_; clear h_1; rintro out ho1 hr_; first | (refine and3 hr_ ?_; clear hr_; rintro ho2 t5 rfl) | obtain ⟨ho2, t5, rfl⟩ := hr_) | (refine ex1 h_1 ?_; clear h_1; rintro out hr_; first | (refine and4 hr_ ?_; clear hr_; rintro ho1 ho2 t5 rfl) | (refine and3 hr_ ?_; clear hr_; rintro ho1 ho2 ⟨t5, rfl⟩) | obtain ⟨ho1, ho2, t5, rfl⟩ := hr_) | (first | (refine and5 h_1 ?_; clear h_1; rintro out ho1 ho2 t5 rfl) | (refine and4 h_1 ?_; clear h_1; rintro out ho1 ho2 ⟨t5, rfl⟩) | (refine and3 h_1 ?_; clear h_1; rintro out ho1 ⟨ho2, t5, rfl⟩) | obtain ⟨out, ho1, ho2, t5, rfl⟩ := h_1)
        refine k_ ?_
        clear k_ X_
        have hol : (Txt.join "" (out.map toldA)).length ≤ 1600 := by
          show (catS _).length ≤ _
          have h0 := catS_len (out.map toldA)
          have h1 := sum_le_of (ys := out.map toldA) (K := 310) fun y hy => by
            obtain ⟨r, hr, rfl⟩ := List.mem_map.mp hy
            exact toldA_len (hLv.atb r (ho1.mem_iff.mp hr))
          have h2 := ho1.length_eq
          have h3 := hLv.atl
          rw [List.length_map] at h1
          omega
        walk_at "ms"
        refine w_addStr (fun _ => ?_) (by simp only [strLen_add]; omega)
        walk_at "ms"
        refine w_addStr (fun _ => ?_) (by simp only [strLen_add]; omega)
        walk_at "ms"
        refine w_append (vs := fv) (Up.tail (Up.tail Up.head)) (by rw [sizeLine_eq]; omega) ?_
        refine Seq.next ?_
        walk_at "ms"
        refine m_list_append (kn_mu (.tail _ (.head _))) ?_
        walk_at "ms"
        refine w_append (vs := pv) (Up.tail (Up.tail Up.head)) (by rw [sizeLine_eq]; omega) ?_
        refine Seq.next ?_
        walk_at "ms"
        rename_i t6 ct
        walk_at "mmeth"
        walk_at "ms"
        refine w_call (mu := []) _ (fun g' h1 h2 => children_ok G hA.le hT (hg.mono h1) hnr) ?_
        rintro _ _ h_2
        refine hide ?_
        intro X_ k_
        first | (refine ex2 h_2 ?_; clear h_2; rintro cl cs hr_; first | (refine and3 hr_ ?_; clear hr_; rintro rfl rfl hcs) | obtain ⟨rfl, rfl, hcs⟩ := hr_) | (refine ex1 h_2 ?_; clear h_2; rintro cl hr_; first | (refine and4 hr_ ?_; clear hr_; rintro cs rfl rfl hcs) | (refine and3 hr_ ?_; clear hr_; rintro cs rfl ⟨rfl, hcs⟩) | obtain ⟨cs, rfl, rfl, hcs⟩ := hr_) | (first | (refine and5 h_2 ?_; clear h_2; rintro cl cs rfl rfl hcs) | (refine and4 h_2 ?_; clear h_2; rintro cl cs rfl ⟨rfl, hcs⟩) | (refine and3 h_2 ?_; clear h_2; rintro cl cs ⟨rfl, rfl, hcs⟩) | obtain ⟨cl, cs, rfl, rfl, hcs⟩ := h_2)
        refine k_ ?_
        clear k_ X_
        have hcl := hcs.len
        have hchl : nr.ch.length ≤ 2 := by
          rw [hnc, List.length_append]
          unfold txCh hdE
          split <;> split <;> simp
        walk_at "ms"
        intro b
        dsimp only
        refine w_rev (vs := cs) (kn_mu (.tail _ (.head _))) (kn_mu (.head _)) (by rw [sizeLine_eq]; omega) fun d => ?_
        have hcr := hcs.rev
        have hkn := kids_node sc' l' ls'
        rw [← hnc] at hkn
        have hkl := congrArg List.length hkn
        rw [List.length_map, List.length_reverse] at hkl
        refine w_freeze (fr := [(d, .lst cs.reverse)]) (mu := [_, _] ++ ([_, _] ++ ((lf, .lst (pv ++ [.ref ct])) :: (fo, .lst (fv ++ [.str _ t6])) :: acc))) ?_
        obtain ⟨ao, hao⟩ : ∃ ao : Str, ao = Str.ofString "<" ++ l'.nm ++ toldNames sc' kn' ss ++ Txt.join "" (out.map toldA) ++ ">" := ⟨_, rfl⟩
        have haol : ao.length ≤ 8000 := by
          rw [hao]
          simp only [strLen_add]
          omega
        rw [← hao]
        have hOpen : OpenOut rk sc' kn' l' ao := ⟨ss, out, hss1, hss2, ho1, ho2, hao⟩
        refine w_forSrc (src_lst hh (.inr (.head _)) fun _ => dr_name) (fun j st => ∃ (vs' : List Value) (acc' : Led), st.mu.Perm ((lf, .lst vs') :: (fo, .lst (fv ++ [.str ao t6])) :: acc') ∧ Each (Item.V (fun a sh => g a sh ∨ (a, sh) ∈ acc')) (ip ++ (.close l' :: (kids sc' l' ls').take j)) vs' ∧ (∀ p ∈ acc, p ∈ acc') ∧
          st.m "left" = some (.ref lf) ∧ st.m "found" = some (.ref fo) ∧ st.m "tree" = some (.ref T.x) ∧ st.m "comments" = some cv ∧ st.m "inner" = some (.ref sd')) ?h0 ?turn ?fin
        case h0 =>
          refine ⟨pv ++ [.ref ct], [_, _] ++ ([_, _] ++ acc), (List.Perm.append_left _ (perm2 _ _)).trans (perm2 _ _), (hEp.mono (Item.V.mono fun a sh h => h.imp id fun h => List.mem_append_right _ (List.mem_append_right _ h))).snoc ⟨ct, t1, rfl, .inr (.tail _ (.tail _ (.head _)))⟩, fun p hp => List.mem_append_right _ (List.mem_append_right _ hp), ?_, ?_, ?_, ?_, ?_⟩
          · walk_at "ml0"
          · walk_at "ml0"
          · walk_at "ml0"
          · walk_at "ml0"
          · walk_at "ml0"
        case turn =>
          clear m1 m2 m3 m4
          rintro j v ⟨m, mu⟩ g' hj hv h_6 hg'
          refine hide ?_
          intro X_ k_
          first | (refine ex9 h_6 ?_; clear h_6; rintro vs' acc' hmu hE' hsub m1 m2 m3 m4 m5) | (refine ex8 h_6 ?_; clear h_6; rintro vs' acc' hmu hE' hsub m1 m2 m3 hr_; first | obtain ⟨m4, m5⟩ := hr_) | (refine ex7 h_6 ?_; clear h_6; rintro vs' acc' hmu hE' hsub m1 m2 hr_; first | (refine and3 hr_ ?_; clear hr_; rintro m3 m4 m5) | obtain ⟨m3, m4, m5⟩ := hr_) | (refine ex6 h_6 ?_; clear h_6; rintro vs' acc' hmu hE' hsub m1 hr_; first | (refine and4 hr_ ?_; clear hr_; rintro m2 m3 m4 m5) | (refine and3 hr_ ?_; clear hr_; rintro m2 m3 ⟨m4, m5⟩) | obtain ⟨m2, m3, m4, m5⟩ := hr_) | (refine ex5 h_6 ?_; clear h_6; rintro vs' acc' hmu hE' hsub hr_; first | (refine and5 hr_ ?_; clear hr_; rintro m1 m2 m3 m4 m5) | (refine and4 hr_ ?_; clear hr_; rintro m1 m2 m3 ⟨m4, m5⟩) | (refine and3 hr_ ?_; clear hr_; rintro m1 m2 ⟨m3, m4, m5⟩) | obtain ⟨m1, m2, m3, m4, m5⟩ := hr_) | (refine ex4 h_6 ?_; clear h_6; rintro vs' acc' hmu hE' hr_; first | (refine and6 hr_ ?_; clear hr_; rintro hsub m1 m2 m3 m4 m5) | (refine and5 hr_ ?_; clear hr_; rintro hsub m1 m2 m3 ⟨m4, m5⟩) | (refine and4 hr_ ?_; clear hr_; rintro hsub m1 m2 ⟨m3, m4, m5⟩) | (refine and3 hr_ ?_; clear hr_; rintro hsub m1 ⟨m2, m3, m4, m5⟩) | obtain ⟨hsub, m1, m2, m3, m4, m5⟩ := hr_) | (refine ex3 h_6 ?_; clear h_6; rintro vs' acc' hmu hr_; first | (refine and7 hr_ ?_; clear hr_; rintro hE' hsub m1 m2 m3 m4 m5) | (refine and6 hr_ ?_; clear hr_; rintro hE' hsub m1 m2 m3 ⟨m4, m5⟩) | (refine and5 hr_ ?_; clear hr_; rintro hE' hsub m1 m2 ⟨m3, m4, m5⟩) | (refine and4 hr_ ?_; clear hr_; rintro hE' hsub m1 ⟨m2, m3, m4, m5⟩) | (refine and3 hr_ ?_; clear hr_; rintro hE' hsub ⟨m1, m2, m3, m4, m5⟩) | obtain ⟨hE', hsub, m1, m2, m3, m4, m5⟩ := hr_) | (refine ex2 h_6 ?_; clear h_6; rintro vs' acc' hr_; first | (refine and8 hr_ ?_; clear hr_; rintro hmu hE' hsub m1 m2 m3 m4 m5) | (refine and7 hr_ ?_; clear hr_; rintro hmu hE' hsub m1 m2 m3 ⟨m4, m5⟩) | (refine and6 hr_ ?_; clear hr_; rintro hmu hE' hsub m1 m2 ⟨m3, m4, m5⟩) | (refine and5 hr_ ?_; clear hr_; rintro hmu hE' hsub m1 ⟨m2, m3, m4, m5⟩) | (refine and4 hr_ ?_; clear hr_; rintro hmu hE' hsub ⟨m1, m2, m3, m4, m5⟩) | (refine and3 hr_ ?_; clear hr_; rintro hmu hE' ⟨hsub, m1, m2, m3, m4, m5⟩) | obtain ⟨hmu, hE', hsub, m1, m2, m3, m4, m5⟩ := hr_) | (refine ex1 h_6 ?_; clear h_6; rintro vs' hr_; first | (refine and9 hr_ ?_; clear hr_; rintro acc' hmu hE' hsub m1 m2 m3 m4 m5) | (refine and8 hr_ ?_; clear hr_; rintro acc' hmu hE' hsub m1 m2 m3 ⟨m4, m5⟩) | (refine and7 hr_ ?_; clear hr_; rintro acc' hmu hE' hsub m1 m2 ⟨m3, m4, m5⟩) | (refine and6 hr_ ?_; clear hr_; rintro acc' hmu hE' hsub m1 ⟨m2, m3, m4, m5⟩) | (refine and5 hr_ ?_; clear hr_; rintro acc' hmu hE' hsub ⟨m1, m2, m3, m4, m5⟩) | (refine and4 hr_ ?_; clear hr_; rintro acc' hmu hE' ⟨hsub, m1, m2, m3, m4, m5⟩) | (refine and3 hr_ ?_; clear hr_; rintro acc' hmu ⟨hE', hsub, m1, m2, m3, m4, m5⟩) | obtain ⟨acc', hmu, hE', hsub, m1, m2, m3, m4, m5⟩ := hr_) | (first | (refine and10 h_6 ?_; clear h_6; rintro vs' acc' hmu hE' hsub m1 m2 m3 m4 m5) | (refine and9 h_6 ?_; clear h_6; rintro vs' acc' hmu hE' hsub m1 m2 m3 ⟨m4, m5⟩) | (refine and8 h_6 ?_; clear h_6; rintro vs' acc' hmu hE' hsub m1 m2 ⟨m3, m4, m5⟩) | (refine and7 h_6 ?_; clear h_6; rintro vs' acc' hmu hE' hsub m1 ⟨m2, m3, m4, m5⟩) | (refine and6 h_6 ?_; clear h_6; rintro vs' acc' hmu hE' hsub ⟨m1, m2, m3, m4, m5⟩) | (refine and5 h_6 ?_; clear h_6; rintro vs' acc' hmu hE' ⟨hsub, m1, m2, m3, m4, m5⟩) | (refine and4 h_6 ?_; clear h_6; rintro vs' acc' hmu ⟨hE', hsub, m1, m2, m3, m4, m5⟩) | (refine and3 h_6 ?_; clear h_6; rintro vs' acc' ⟨hmu, hE', hsub, m1, m2, m3, m4, m5⟩) | obtain ⟨vs', acc', hmu, hE', hsub, m1, m2, m3, m4, m5⟩ := h_6)
          refine k_ ?_
          clear k_ X_
          dsimp only at m1 m2 m3 m4 m5 hmu
          refine w_turn _ hmu ?_
          clear hmu
          refine hide ?_
          intro X_ k_
          first | (refine ex3 (hcr.get' hv) ?_; rintro k hk tk rfl) | (refine ex2 (hcr.get' hv) ?_; rintro k hk hr_; first | obtain ⟨tk, rfl⟩ := hr_) | (refine ex1 (hcr.get' hv) ?_; rintro k hr_; first | (refine and3 hr_ ?_; clear hr_; rintro hk tk rfl) | obtain ⟨hk, tk, rfl⟩ := hr_) | (first | (refine and4 (hcr.get' hv) ?_; rintro k hk tk rfl) | (refine and3 (hcr.get' hv) ?_; rintro k hk ⟨tk, rfl⟩) | obtain ⟨k, hk, tk, rfl⟩ := (hcr.get' hv))
          refine k_ ?_
          clear k_ X_
          obtain ⟨it, hit, hin⟩ : ∃ it, (kids sc' l' ls')[j]? = some it ∧ it.node = k := by
            rw [← hkn, List.getElem?_map, Option.map_eq_some_iff] at hk
            exact hk
          have hgT : inG g' (treeLed T) := fun q hq => hg' _ _ (.inl (hg q hq))
          have kT1' := tg1 hgT
          have kT2' := tg2 hgT
          have hitm := List.mem_of_getElem? hit
          have hIOk := kids_ok hC' it hitm
          have hvl := hE'.len
          have hS' : g' sd' (.dct k1') ∨ (sd', Sh.dct k1') ∈ acc' := hS.elim (fun h => .inl (hg' _ _ (.inl h))) fun h => .inr (hsub _ h)
          have htk : (kids sc' l' ls').take (j + 1) = (kids sc' l' ls').take j ++ [it] := by rw [List.take_add_one, hit]; rfl
          have hjl : ((kids sc' l' ls').take j).length ≤ 2 := by
            have := List.length_take_le' j (kids sc' l' ls')
            omega
          rw [List.length_append, List.length_cons] at hvl
          walk_at "ms"
          walk_at "mmeth"
          walk_at "ms"
          rcases kids_cases it hitm with ⟨k', x, rfl⟩ | ⟨l2, r2, hls2, rfl⟩
          · have hin' : k' = k := hin
            subst hin'
            refine hide ?_
            intro X_ k_
            first | (refine ex3 hIOk ?_; clear hIOk; rintro nk hnk hkk _) | (refine ex2 hIOk ?_; clear hIOk; rintro nk hnk hr_; first | obtain ⟨hkk, _⟩ := hr_) | (refine ex1 hIOk ?_; clear hIOk; rintro nk hr_; first | (refine and3 hr_ ?_; clear hr_; rintro hnk hkk _) | obtain ⟨hnk, hkk, _⟩ := hr_) | (first | (refine and4 hIOk ?_; clear hIOk; rintro nk hnk hkk _) | (refine and3 hIOk ?_; clear hIOk; rintro nk hnk ⟨hkk, _⟩) | obtain ⟨nk, hnk, hkk, _⟩ := hIOk)
            refine k_ ?_
            clear k_ X_
            refine w_callPure _ (fun g' h1 h2 => kind_ok G hA.le hT (hgT.mono h1) hnk) ?_
            rintro _ ⟨t7, rfl⟩
            rw [hkk]
            walk_at "ms"
            refine m_list_append (kn_mu (.head _)) ?_
            walk_at "ms"
            refine Br.ff (by decide +kernel) ?_
            walk_at "ms"
            refine w_append (vs := vs') (Up.tail Up.head) (by rw [sizeLine_eq]; omega) ?_
            refine Seq.next ?_
            walk_at "ms"
            rename_i tt2
            refine ⟨vs' ++ [.ref tt2], (tt2, .tup [.int k' tk, .ref sd', .ref sd']) :: acc', perm1, ?_, fun p hp => .tail _ (hsub p hp), ?_, ?_, ?_, ?_, ?_⟩
            · rw [htk, ← List.cons_append, ← List.append_assoc]
              exact (hE'.mono (Item.V.mono fun a sh h => h.imp id fun h => .tail _ h)).snoc ⟨tt2, tk, sd', sd', rfl, .inr (.head _)⟩
            · walk_at "ml0"
            · walk_at "ml0"
            · walk_at "ml0"
            · walk_at "ml0"
            · walk_at "ml0"
          · have hin' : l2.e = k := hin
            subst hin'
            obtain ⟨hSB2, hLv2, _⟩ := id hIOk
            refine hide ?_
            intro X_ k_
            first | (refine ex4 (hLv2.row) ?_; rintro nr2 hnr2 hnk2 _ _) | (refine ex3 (hLv2.row) ?_; rintro nr2 hnr2 hnk2 hr_; first | obtain ⟨_, _⟩ := hr_) | (refine ex2 (hLv2.row) ?_; rintro nr2 hnr2 hr_; first | (refine and3 hr_ ?_; clear hr_; rintro hnk2 _ _) | obtain ⟨hnk2, _, _⟩ := hr_) | (refine ex1 (hLv2.row) ?_; rintro nr2 hr_; first | (refine and4 hr_ ?_; clear hr_; rintro hnr2 hnk2 _ _) | (refine and3 hr_ ?_; clear hr_; rintro hnr2 hnk2 ⟨_, _⟩) | obtain ⟨hnr2, hnk2, _, _⟩ := hr_) | (first | (refine and5 (hLv2.row) ?_; rintro nr2 hnr2 hnk2 _ _) | (refine and4 (hLv2.row) ?_; rintro nr2 hnr2 hnk2 ⟨_, _⟩) | (refine and3 (hLv2.row) ?_; rintro nr2 hnr2 ⟨hnk2, _, _⟩) | obtain ⟨nr2, hnr2, hnk2, _, _⟩ := (hLv2.row))
            refine k_ ?_
            clear k_ X_
            have hsl2 := hSB.len
            have hul2 := hLv2.nsl
            refine w_callPure _ (fun g' h1 h2 => kind_ok G hA.le hT (hgT.mono h1) hnr2) ?_
            rintro _ ⟨t7, rfl⟩
            rw [hnk2]
            walk_at "ms"
            refine m_list_append (kn_mu (.head _)) ?_
            walk_at "ms"
            refine Br.tt (by decide +kernel) ?_
            walk_at "ms"
            refine w_call (mu := []) _ (fun g'' h1 h2 => within_ok G hA.le hT (hgT.mono h1) (hS'.elim (fun h => h1 _ _ h) fun h => h2 (_, _) (.tail _ (.tail _ h))) hD1 hLv2.ns (by omega) (by omega)) ?_
            rintro _ mu₂ h_2
            refine hide ?_
            intro X_ k_
            first | (refine ex2 h_2 ?_; clear h_2; rintro nd k3 hr_; first | (refine and3 hr_ ?_; clear hr_; rintro rfl hnd hD3) | obtain ⟨rfl, hnd, hD3⟩ := hr_) | (refine ex1 h_2 ?_; clear h_2; rintro nd hr_; first | (refine and4 hr_ ?_; clear hr_; rintro k3 rfl hnd hD3) | (refine and3 hr_ ?_; clear hr_; rintro k3 rfl ⟨hnd, hD3⟩) | obtain ⟨k3, rfl, hnd, hD3⟩ := hr_) | (first | (refine and5 h_2 ?_; clear h_2; rintro nd k3 rfl hnd hD3) | (refine and4 h_2 ?_; clear h_2; rintro nd k3 rfl ⟨hnd, hD3⟩) | (refine and3 h_2 ?_; clear h_2; rintro nd k3 ⟨rfl, hnd, hD3⟩) | obtain ⟨nd, k3, rfl, hnd, hD3⟩ := h_2)
            refine k_ ?_
            clear k_ X_
            walk_at "ms"
            rename_i tt2
            refine w_append (vs := vs') (mu := (tt2, .tup [.int l2.e tk, .ref nd, .ref sd']) :: (mu₂ ++ ((lf, .lst vs') :: (fo, .lst (fv ++ [.str ao t6])) :: acc'))) (Up.tail (Up.appR Up.head mu₂)) (by rw [sizeLine_eq]; omega) ?_
            refine Seq.next ?_
            walk_at "ms"
            refine ⟨vs' ++ [.ref tt2], ((tt2, .tup [.int l2.e tk, .ref nd, .ref sd']) :: mu₂) ++ acc', perm3, ?_, fun p hp => List.mem_append_right _ (hsub p hp), ?_, ?_, ?_, ?_, ?_⟩
            · rw [htk, ← List.cons_append, ← List.append_assoc]
              refine (hE'.mono (Item.V.mono fun a sh h => h.imp id fun h => List.mem_append_right _ h)).snoc ⟨tt2, tk, nd, sd', k3, k1', rfl, .inr (.head _), .inr (List.mem_append_left _ (.tail _ hnd)), ?_, hD3, hD1⟩
              exact hS.imp id fun h => List.mem_append_right _ (hsub _ h)
            · walk_at "ml0"
            · walk_at "ml0"
            · walk_at "ml0"
            · walk_at "ml0"
            · walk_at "ml0"
        case fin =>
          clear m1 m2 m3 m4
          rintro ⟨m, mu⟩ h_1
          refine hide ?_
          intro X_ k_
          first | (refine ex9 h_1 ?_; clear h_1; rintro vs' acc' hmu hE' hsub m1 m2 m3 m4 m5) | (refine ex8 h_1 ?_; clear h_1; rintro vs' acc' hmu hE' hsub m1 m2 m3 hr_; first | obtain ⟨m4, m5⟩ := hr_) | (refine ex7 h_1 ?_; clear h_1; rintro vs' acc' hmu hE' hsub m1 m2 hr_; first | (refine and3 hr_ ?_; clear hr_; rintro m3 m4 m5) | obtain ⟨m3, m4, m5⟩ := hr_) | (refine ex6 h_1 ?_; clear h_1; rintro vs' acc' hmu hE' hsub m1 hr_; first | (refine and4 hr_ ?_; clear hr_; rintro m2 m3 m4 m5) | (refine and3 hr_ ?_; clear hr_; rintro m2 m3 ⟨m4, m5⟩) | obtain ⟨m2, m3, m4, m5⟩ := hr_) | (refine ex5 h_1 ?_; clear h_1; rintro vs' acc' hmu hE' hsub hr_; first | (refine and5 hr_ ?_; clear hr_; rintro m1 m2 m3 m4 m5) | (refine and4 hr_ ?_; clear hr_; rintro m1 m2 m3 ⟨m4, m5⟩) | (refine and3 hr_ ?_; clear hr_; rintro m1 m2 ⟨m3, m4, m5⟩) | obtain ⟨m1, m2, m3, m4, m5⟩ := hr_) | (refine ex4 h_1 ?_; clear h_1; rintro vs' acc' hmu hE' hr_; first | (refine and6 hr_ ?_; clear hr_; rintro hsub m1 m2 m3 m4 m5) | (refine and5 hr_ ?_; clear hr_; rintro hsub m1 m2 m3 ⟨m4, m5⟩) | (refine and4 hr_ ?_; clear hr_; rintro hsub m1 m2 ⟨m3, m4, m5⟩) | (refine and3 hr_ ?_; clear hr_; rintro hsub m1 ⟨m2, m3, m4, m5⟩) | obtain ⟨hsub, m1, m2, m3, m4, m5⟩ := hr_) | (refine ex3 h_1 ?_; clear h_1; rintro vs' acc' hmu hr_; first | (refine and7 hr_ ?_; clear hr_; rintro hE' hsub m1 m2 m3 m4 m5) | (refine and6 hr_ ?_; clear hr_; rintro hE' hsub m1 m2 m3 ⟨m4, m5⟩) | (refine and5 hr_ ?_; clear hr_; rintro hE' hsub m1 m2 ⟨m3, m4, m5⟩) | (refine and4 hr_ ?_; clear hr_; rintro hE' hsub m1 ⟨m2, m3, m4, m5⟩) | (refine and3 hr_ ?_; clear hr_; rintro hE' hsub ⟨m1, m2, m3, m4, m5⟩) | obtain ⟨hE', hsub, m1, m2, m3, m4, m5⟩ := hr_) | (refine ex2 h_1 ?_; clear h_1; rintro vs' acc' hr_; first | (refine and8 hr_ ?_; clear hr_; rintro hmu hE' hsub m1 m2 m3 m4 m5) | (refine and7 hr_ ?_; clear hr_; rintro hmu hE' hsub m1 m2 m3 ⟨m4, m5⟩) | (refine and6 hr_ ?_; clear hr_; rintro hmu hE' hsub m1 m2 ⟨m3, m4, m5⟩) | (refine and5 hr_ ?_; clear hr_; rintro hmu hE' hsub m1 ⟨m2, m3, m4, m5⟩) | (refine and4 hr_ ?_; clear hr_; rintro hmu hE' hsub ⟨m1, m2, m3, m4, m5⟩) | (refine and3 hr_ ?_; clear hr_; rintro hmu hE' ⟨hsub, m1, m2, m3, m4, m5⟩) | obtain ⟨hmu, hE', hsub, m1, m2, m3, m4, m5⟩ := hr_) | (refine ex1 h_1 ?_; clear h_1; rintro vs' hr_; first | (refine and9 hr_ ?_; clear hr_; rintro acc' hmu hE' hsub m1 m2 m3 m4 m5) | (refine and8 hr_ ?_; clear hr_; rintro acc' hmu hE' hsub m1 m2 m3 ⟨m4, m5⟩) | (refine and7 hr_ ?_; clear hr_; rintro acc' hmu hE' hsub m1 m2 ⟨m3, m4, m5⟩) | (refine and6 hr_ ?_; clear hr_; rintro acc' hmu hE' hsub m1 ⟨m2, m3, m4, m5⟩) | (refine and5 hr_ ?_; clear hr_; rintro acc' hmu hE' hsub ⟨m1, m2, m3, m4, m5⟩) | (refine and4 hr_ ?_; clear hr_; rintro acc' hmu hE' ⟨hsub, m1, m2, m3, m4, m5⟩) | (refine and3 hr_ ?_; clear hr_; rintro acc' hmu ⟨hE', hsub, m1, m2, m3, m4, m5⟩) | obtain ⟨acc', hmu, hE', hsub, m1, m2, m3, m4, m5⟩ := hr_) | (first | (refine and10 h_1 ?_; clear h_1; rintro vs' acc' hmu hE' hsub m1 m2 m3 m4 m5) | (refine and9 h_1 ?_; clear h_1; rintro vs' acc' hmu hE' hsub m1 m2 m3 ⟨m4, m5⟩) | (refine and8 h_1 ?_; clear h_1; rintro vs' acc' hmu hE' hsub m1 m2 ⟨m3, m4, m5⟩) | (refine and7 h_1 ?_; clear h_1; rintro vs' acc' hmu hE' hsub m1 ⟨m2, m3, m4, m5⟩) | (refine and6 h_1 ?_; clear h_1; rintro vs' acc' hmu hE' hsub ⟨m1, m2, m3, m4, m5⟩) | (refine and5 h_1 ?_; clear h_1; rintro vs' acc' hmu hE' ⟨hsub, m1, m2, m3, m4, m5⟩) | (refine and4 h_1 ?_; clear h_1; rintro vs' acc' hmu ⟨hE', hsub, m1, m2, m3, m4, m5⟩) | (refine and3 h_1 ?_; clear h_1; rintro vs' acc' ⟨hmu, hE', hsub, m1, m2, m3, m4, m5⟩) | obtain ⟨vs', acc', hmu, hE', hsub, m1, m2, m3, m4, m5⟩ := h_1)
          refine k_ ?_
          clear k_ X_
          dsimp only at m1 m2 m3 m4 m5 hmu
          rw [show cs.reverse.length = (kids sc' l' ls').length by rw [hkl, List.length_reverse, hcl], List.take_length] at hE'
          walk_at "ms"
          have hw2 : (Item.elem sc' kn' l' ls').wt = 3 * (ls'.length + 1) := rfl
          have hkw := kids_w sc' l' ls'
          have hwn : wts (ip ++ (.close l' :: kids sc' l' ls')) = wts ip + (1 + wts (kids sc' l' ls')) := by
            rw [wts_append]
            show _ + ((Item.close l' :: kids sc' l' ls').map Item.wt).sum = _
            rw [List.map_cons, List.sum_cons]
            rfl
          refine ⟨wts (ip ++ (.close l' :: kids sc' l' ls')), by omega, X, vs', fv ++ [.str ao t6], _, fs ++ [ao], (d, .lst cs.reverse) :: acc', (List.Perm.cons _ hmu).trans (perm1), hE'.mono (Item.V.mono fun a sh h => h.imp id fun h => .tail _ h), hF.snoc ⟨_, rfl⟩, ?_, rfl, by rw [List.length_append]; simp; omega, ?_, ?_, ?_, ?_, ?_, ?_⟩
          · intro x hx
            rcases List.mem_append.mp hx with hx | hx
            · exact hOkp x hx
            · rcases List.mem_cons.mp hx with rfl | hx
              · exact ⟨hnm, nr, hnr, hnn⟩
              · exact kids_ok hC' x hx
          · intro x hx
            rcases List.mem_append.mp hx with hx | hx
            · exact hfl x hx
            · rw [List.mem_singleton.mp hx]
              exact haol
          · intro o ho
            rw [List.reverse_append] at ho
            refine hide ?_
            intro X_ k_
            first | (refine ex4 (ho.app) ?_; rintro o1 o2 ho1 ho2 rfl) | (refine ex3 (ho.app) ?_; rintro o1 o2 ho1 hr_; first | obtain ⟨ho2, rfl⟩ := hr_) | (refine ex2 (ho.app) ?_; rintro o1 o2 hr_; first | (refine and3 hr_ ?_; clear hr_; rintro ho1 ho2 rfl) | obtain ⟨ho1, ho2, rfl⟩ := hr_) | (refine ex1 (ho.app) ?_; rintro o1 hr_; first | (refine and4 hr_ ?_; clear hr_; rintro o2 ho1 ho2 rfl) | (refine and3 hr_ ?_; clear hr_; rintro o2 ho1 ⟨ho2, rfl⟩) | obtain ⟨o2, ho1, ho2, rfl⟩ := hr_) | (first | (refine and5 (ho.app) ?_; rintro o1 o2 ho1 ho2 rfl) | (refine and4 (ho.app) ?_; rintro o1 o2 ho1 ⟨ho2, rfl⟩) | (refine and3 (ho.app) ?_; rintro o1 o2 ⟨ho1, ho2, rfl⟩) | obtain ⟨o1, o2, ho1, ho2, rfl⟩ := (ho.app))
            refine k_ ?_
            clear k_ X_
            rw [catS_append, catS_one, Str.append_assoc, ← Str.append_assoc ao]
            exact hO' _ _ (kids_out hOpen ho1) ho2
          · walk_at "ml0"
          · walk_at "ml0"
          · walk_at "ml0"
          · walk_at "ml0"
end
end Mine
end -- F20

section -- F21
open PySem PySem.W PySem.Calls PyProof.Rows PySem.Builtin
namespace Mine
section
variable {prog : Program} {w : World} {O : Heap} {A : Around} {P : Params} {mg mb : Str → Option Value} {g : Kn}

/-- what an element's form is, its scope being found from the root -/
structure FromTop (rk : R4 → Nat) (t : List NR) (l : Lvl) (ls : List Lvl) (path : List Nat) (uss : List (List (Str × Str))) : Prop where
  up : PathUp t (some l.e) path
  ns : Each (NsAt t) path.reverse uss
  pl : path.length ≤ 50
  ul : ∀ us ∈ uss, us.length ≤ 10
  ok : ∀ X, ChainOk rk t (foldSS uss [("xml", X)]) (l :: ls)
  len : ls.length ≤ 8
noncomputable def FormOut (rk : R4 → Nat) (uss : List (List (Str × Str))) (ls : List Lvl) (o : Str) : Prop := ∃ X Y, ElemOut rk (foldSS uss [("xml", X)]) [("xml", Y)] ls o

theorem root_ok (G : Gnd (hk.heap_1 P) O mg mb) (hA : Amb A 6) {T : TA} {t : List NR} (hT : TreeIs T t) (hg : inG g (treeLed T)) {rk : R4 → Nat} {l : Lvl} {ls : List Lvl} {path : List Nat} {uss : List (List (Str × Str))} (hF : FromTop rk t l ls path uss)
    {i : Nat} {ti : Tok} {nr : NR} (hnr : t[i]? = some nr) (hch : nr.ch = [l.e]) {cv : Value} :
    Calls prog w O A (.ref 135) [.ref T.x, .int i ti, cv] g [] (fun v _ => ∃ o, FormOut rk uss (l :: ls) o ∧ SV o v) := by
  refine Calls.fn (n := 5) [("comments", cv), ("root", .int i ti), ("tree", .ref T.x)] G hA (by k_is) (by k_is) (fun _ _ => BindsTo.of_eq rfl) (locs rfl) ?_ (by rfl) (by rfl) (by rfl) (by decide)
  intro L s env c hA G
  have hh : c.A.handled = none := hA.handled
  have kT1 := tg1 hg
  have kT2 := tg2 hg
  obtain ⟨⟨_, hLv, _⟩⟩ : Nonempty (ChainOk rk t _ (l :: ls)) := ⟨hF.ok ""⟩
  refine hide ?_
  intro X_ k_
  first | (refine ex4 (hLv.row) ?_; rintro nrl hnrl hnk hnn hnc) | (refine ex3 (hLv.row) ?_; rintro nrl hnrl hnk hr_; first | obtain ⟨hnn, hnc⟩ := hr_) | (refine ex2 (hLv.row) ?_; rintro nrl hnrl hr_; first | (refine and3 hr_ ?_; clear hr_; rintro hnk hnn hnc) | obtain ⟨hnk, hnn, hnc⟩ := hr_) | (refine ex1 (hLv.row) ?_; rintro nrl hr_; first | (refine and4 hr_ ?_; clear hr_; rintro hnrl hnk hnn hnc) | (refine and3 hr_ ?_; clear hr_; rintro hnrl hnk ⟨hnn, hnc⟩) | obtain ⟨hnrl, hnk, hnn, hnc⟩ := hr_) | (first | (refine and5 (hLv.row) ?_; rintro nrl hnrl hnk hnn hnc) | (refine and4 (hLv.row) ?_; rintro nrl hnrl hnk ⟨hnn, hnc⟩) | (refine and3 (hLv.row) ?_; rintro nrl hnrl ⟨hnk, hnn, hnc⟩) | obtain ⟨nrl, hnrl, hnk, hnn, hnc⟩ := (hLv.row))
  refine k_ ?_
  clear k_ X_
  walk_at "ms"
  walk_at "mmeth"
  walk_at "ms"
  refine w_call (mu := []) _ (fun g' h1 h2 => children_ok G hA.le hT (hg.mono h1) hnr) ?_
  rintro _ _ h_2
  refine hide ?_
  intro X_ k_
  first | (refine ex2 h_2 ?_; clear h_2; rintro cl cs hr_; first | (refine and3 hr_ ?_; clear hr_; rintro rfl rfl hcs) | obtain ⟨rfl, rfl, hcs⟩ := hr_) | (refine ex1 h_2 ?_; clear h_2; rintro cl hr_; first | (refine and4 hr_ ?_; clear hr_; rintro cs rfl rfl hcs) | (refine and3 hr_ ?_; clear hr_; rintro cs rfl ⟨rfl, hcs⟩) | obtain ⟨cs, rfl, rfl, hcs⟩ := hr_) | (first | (refine and5 h_2 ?_; clear h_2; rintro cl cs rfl rfl hcs) | (refine and4 h_2 ?_; clear h_2; rintro cl cs rfl ⟨rfl, hcs⟩) | (refine and3 h_2 ?_; clear h_2; rintro cl cs ⟨rfl, rfl, hcs⟩) | obtain ⟨cl, cs, rfl, rfl, hcs⟩ := h_2)
  refine k_ ?_
  clear k_ X_
  rename_i fo
  rw [hch] at hcs
  refine hide ?_
  intro X_ k_
  first | (refine ex2 (hcs.inv) ?_; rintro c0 cs' hr_; first | (refine and3 hr_ ?_; clear hr_; rintro rfl ⟨tc, rfl⟩ hcs') | obtain ⟨rfl, ⟨tc, rfl⟩, hcs'⟩ := hr_) | (refine ex1 (hcs.inv) ?_; rintro c0 hr_; first | (refine and4 hr_ ?_; clear hr_; rintro cs' rfl ⟨tc, rfl⟩ hcs') | (refine and3 hr_ ?_; clear hr_; rintro cs' rfl ⟨⟨tc, rfl⟩, hcs'⟩) | obtain ⟨cs', rfl, ⟨tc, rfl⟩, hcs'⟩ := hr_) | (first | (refine and5 (hcs.inv) ?_; rintro c0 cs' rfl ⟨tc, rfl⟩ hcs') | (refine and4 (hcs.inv) ?_; rintro c0 cs' rfl ⟨⟨tc, rfl⟩, hcs'⟩) | (refine and3 (hcs.inv) ?_; rintro c0 cs' ⟨rfl, ⟨tc, rfl⟩, hcs'⟩) | obtain ⟨c0, cs', rfl, ⟨tc, rfl⟩, hcs'⟩ := (hcs.inv))
  refine k_ ?_
  clear k_ X_
  have e0 := Each.nilv hcs'
  subst e0
  refine w_freeze (fr := [(cl, .lst [.int l.e tc])]) (mu := [(fo, .lst [])]) ?_
  refine w_forSrc (src_lst hh (.inr (.head _)) fun _ => dr_name) (fun j st => ∃ (fv : List Value) (fs : List Str) (pre acc : Led), st.mu = pre ++ ((fo, .lst fv) :: acc) ∧ Each SV fs fv ∧ fs.length = j ∧ (∀ x ∈ fs, FormOut rk uss (l :: ls) x ∧ x.length ≤ 216000) ∧
    st.m "found" = some (.ref fo) ∧ st.m "tree" = some (.ref T.x) ∧ st.m "comments" = some cv) ?h0 ?turn ?fin
  case h0 =>
    refine ⟨[], [], [], [], rfl, trivial, rfl, fun _ h => (by cases h), ?_, ?_, ?_⟩
    · walk_at "ml0"
    · walk_at "ml0"
    · walk_at "ml0"
  case turn =>
    rintro j v ⟨m, mu⟩ g' hj hv h_6 hg'
    refine hide ?_
    intro X_ k_
    first | (refine ex10 h_6 ?_; clear h_6; rintro fv fs pre acc hmu hE hfl hfs m1 m2 m3) | (refine ex9 h_6 ?_; clear h_6; rintro fv fs pre acc hmu hE hfl hfs m1 hr_; first | obtain ⟨m2, m3⟩ := hr_) | (refine ex8 h_6 ?_; clear h_6; rintro fv fs pre acc hmu hE hfl hfs hr_; first | (refine and3 hr_ ?_; clear hr_; rintro m1 m2 m3) | obtain ⟨m1, m2, m3⟩ := hr_) | (refine ex7 h_6 ?_; clear h_6; rintro fv fs pre acc hmu hE hfl hr_; first | (refine and4 hr_ ?_; clear hr_; rintro hfs m1 m2 m3) | (refine and3 hr_ ?_; clear hr_; rintro hfs m1 ⟨m2, m3⟩) | obtain ⟨hfs, m1, m2, m3⟩ := hr_) | (refine ex6 h_6 ?_; clear h_6; rintro fv fs pre acc hmu hE hr_; first | (refine and5 hr_ ?_; clear hr_; rintro hfl hfs m1 m2 m3) | (refine and4 hr_ ?_; clear hr_; rintro hfl hfs m1 ⟨m2, m3⟩) | (refine and3 hr_ ?_; clear hr_; rintro hfl hfs ⟨m1, m2, m3⟩) | obtain ⟨hfl, hfs, m1, m2, m3⟩ := hr_) | (refine ex5 h_6 ?_; clear h_6; rintro fv fs pre acc hmu hr_; first | (refine and6 hr_ ?_; clear hr_; rintro hE hfl hfs m1 m2 m3) | (refine and5 hr_ ?_; clear hr_; rintro hE hfl hfs m1 ⟨m2, m3⟩) | (refine and4 hr_ ?_; clear hr_; rintro hE hfl hfs ⟨m1, m2, m3⟩) | (refine and3 hr_ ?_; clear hr_; rintro hE hfl ⟨hfs, m1, m2, m3⟩) | obtain ⟨hE, hfl, hfs, m1, m2, m3⟩ := hr_) | (refine ex4 h_6 ?_; clear h_6; rintro fv fs pre acc hr_; first | (refine and7 hr_ ?_; clear hr_; rintro hmu hE hfl hfs m1 m2 m3) | (refine and6 hr_ ?_; clear hr_; rintro hmu hE hfl hfs m1 ⟨m2, m3⟩) | (refine and5 hr_ ?_; clear hr_; rintro hmu hE hfl hfs ⟨m1, m2, m3⟩) | (refine and4 hr_ ?_; clear hr_; rintro hmu hE hfl ⟨hfs, m1, m2, m3⟩) | (refine and3 hr_ ?_; clear hr_; rintro hmu hE ⟨hfl, hfs, m1, m2, m3⟩) | obtain ⟨hmu, hE, hfl, hfs, m1, m2, m3⟩ := hr_) | (refine ex3 h_6 ?_; clear h_6; rintro fv fs pre hr_; first | (refine and8 hr_ ?_; clear hr_; rintro acc hmu hE hfl hfs m1 m2 m3) | (refine and7 hr_ ?_; clear hr_; rintro acc hmu hE hfl hfs m1 ⟨m2, m3⟩) | (refine and6 hr_ ?_; clear hr_; rintro acc hmu hE hfl hfs ⟨m1, m2, m3⟩) | (refine and5 hr_ ?_; clear hr_; rintro acc hmu hE hfl ⟨hfs, m1, m2, m3⟩) | (refine and4 hr_ ?_; clear hr_; rintro acc hmu hE ⟨hfl, hfs, m1, m2, m3⟩) | (refine and3 hr_ ?_; clear hr_; rintro acc hmu ⟨hE, hfl, hfs, m1, m2, m3⟩) | obtain ⟨acc, hmu, hE, hfl, hfs, m1, m2, m3⟩ := hr_) | (refine ex2 h_6 ?_; clear h_6; rintro fv fs hr_; first | (refine and9 hr_ ?_; clear hr_; rintro pre acc hmu hE hfl hfs m1 m2 m3) | (refine and8 hr_ ?_; clear hr_; rintro pre acc hmu hE hfl hfs m1 ⟨m2, m3⟩) | (refine and7 hr_ ?_; clear hr_; rintro pre acc hmu hE hfl hfs ⟨m1, m2, m3⟩) | (refine and6 hr_ ?_; clear hr_; rintro pre acc hmu hE hfl ⟨hfs, m1, m2, m3⟩) | (refine and5 hr_ ?_; clear hr_; rintro pre acc hmu hE ⟨hfl, hfs, m1, m2, m3⟩) | (refine and4 hr_ ?_; clear hr_; rintro pre acc hmu ⟨hE, hfl, hfs, m1, m2, m3⟩) | (refine and3 hr_ ?_; clear hr_; rintro pre acc ⟨hmu, hE, hfl, hfs, m1, m2, m3⟩) | obtain ⟨pre, acc, hmu, hE, hfl, hfs, m1, m2, m3⟩ := hr_) | (refine ex1 h_6 ?_; clear h_6; rintro fv hr_; first | (refine and10 hr_ ?_; clear hr_; rintro fs pre acc hmu hE hfl hfs m1 m2 m3) | (refine and9 hr_ ?_; clear hr_; rintro fs pre acc hmu hE hfl hfs m1 ⟨m2, m3⟩) | (refine and8 hr_ ?_; clear hr_; rintro fs pre acc hmu hE hfl hfs ⟨m1, m2, m3⟩) | (refine and7 hr_ ?_; clear hr_; rintro fs pre acc hmu hE hfl ⟨hfs, m1, m2, m3⟩) | (refine and6 hr_ ?_; clear hr_; rintro fs pre acc hmu hE ⟨hfl, hfs, m1, m2, m3⟩) | (refine and5 hr_ ?_; clear hr_; rintro fs pre acc hmu ⟨hE, hfl, hfs, m1, m2, m3⟩) | (refine and4 hr_ ?_; clear hr_; rintro fs pre acc ⟨hmu, hE, hfl, hfs, m1, m2, m3⟩) | (refine and3 hr_ ?_; clear hr_; rintro fs pre ⟨acc, hmu, hE, hfl, hfs, m1, m2, m3⟩) | obtain ⟨fs, pre, acc, hmu, hE, hfl, hfs, m1, m2, m3⟩ := hr_) | (first | (refine and11 h_6 ?_; clear h_6; rintro fv fs pre acc hmu hE hfl hfs m1 m2 m3) | (refine and10 h_6 ?_; clear h_6; rintro fv fs pre acc hmu hE hfl hfs m1 ⟨m2, m3⟩) | (refine and9 h_6 ?_; clear h_6; rintro fv fs pre acc hmu hE hfl hfs ⟨m1, m2, m3⟩) | (refine and8 h_6 ?_; clear h_6; rintro fv fs pre acc hmu hE hfl ⟨hfs, m1, m2, m3⟩) | (refine and7 h_6 ?_; clear h_6; rintro fv fs pre acc hmu hE ⟨hfl, hfs, m1, m2, m3⟩) | (refine and6 h_6 ?_; clear h_6; rintro fv fs pre acc hmu ⟨hE, hfl, hfs, m1, m2, m3⟩) | (refine and5 h_6 ?_; clear h_6; rintro fv fs pre acc ⟨hmu, hE, hfl, hfs, m1, m2, m3⟩) | (refine and4 h_6 ?_; clear h_6; rintro fv fs pre ⟨acc, hmu, hE, hfl, hfs, m1, m2, m3⟩) | (refine and3 h_6 ?_; clear h_6; rintro fv fs ⟨pre, acc, hmu, hE, hfl, hfs, m1, m2, m3⟩) | obtain ⟨fv, fs, pre, acc, hmu, hE, hfl, hfs, m1, m2, m3⟩ := h_6)
    refine k_ ?_
    clear k_ X_
    dsimp only at hmu m1 m2 m3
    subst hmu
    have hj0 : j = 0 := by simpa using hj
    subst hj0
    have hv0 : v = .int l.e tc := by simpa using hv.symm
    subst hv0
    have hgT : inG g' (treeLed T) := fun q hq => hg' _ _ (.inl (hg q hq))
    have kT1' := tg1 hgT
    have kT2' := tg2 hgT
    walk_at "ms"
    walk_at "mmeth"
    walk_at "ms"
    refine w_callPure _ (fun g' h1 h2 => kind_ok G hA.le hT (hgT.mono h1) hnrl) ?_
    rintro _ ⟨t2, rfl⟩
    rw [hnk]
    walk_at "ms"
    refine Br.tt (by decide +kernel) ?_
    walk_at "ms"
    refine m_list_append (kn_mu (List.mem_append_right _ (.head _))) ?_
    walk_at "ms"
    refine w_call (mu := []) _ (fun g'' h1 h2 => scope_ok G hA.le hT (hgT.mono h1) hF.up hF.ns hF.pl hF.ul) ?_
    rintro _ mu₂ h_2
    refine hide ?_
    intro X_ k_
    first | (refine ex3 h_2 ?_; clear h_2; rintro sd X ks hr_; first | (refine and3 hr_ ?_; clear hr_; rintro rfl hsd hD) | obtain ⟨rfl, hsd, hD⟩ := hr_) | (refine ex2 h_2 ?_; clear h_2; rintro sd X hr_; first | (refine and4 hr_ ?_; clear hr_; rintro ks rfl hsd hD) | (refine and3 hr_ ?_; clear hr_; rintro ks rfl ⟨hsd, hD⟩) | obtain ⟨ks, rfl, hsd, hD⟩ := hr_) | (refine ex1 h_2 ?_; clear h_2; rintro sd hr_; first | (refine and5 hr_ ?_; clear hr_; rintro X ks rfl hsd hD) | (refine and4 hr_ ?_; clear hr_; rintro X ks rfl ⟨hsd, hD⟩) | (refine and3 hr_ ?_; clear hr_; rintro X ks ⟨rfl, hsd, hD⟩) | obtain ⟨X, ks, rfl, hsd, hD⟩ := hr_) | (first | (refine and6 h_2 ?_; clear h_2; rintro sd X ks rfl hsd hD) | (refine and5 h_2 ?_; clear h_2; rintro sd X ks rfl ⟨hsd, hD⟩) | (refine and4 h_2 ?_; clear h_2; rintro sd X ks ⟨rfl, hsd, hD⟩) | (refine and3 h_2 ?_; clear h_2; rintro sd X ⟨ks, rfl, hsd, hD⟩) | obtain ⟨sd, X, ks, rfl, hsd, hD⟩ := h_2)
    refine k_ ?_
    clear k_ X_
    walk_at "ms"
    refine w_callPure _ (fun g'' h1 h2 => element_ok G hA.le hT (hgT.mono h1) (hF.ok X) hF.len (h2 (_, _) (List.mem_append_left _ hsd)) hD) ?_
    rintro _ h_1
    refine hide ?_
    intro X_ k_
    first | (refine ex5 h_1 ?_; clear h_1; rintro Y o ho hol to rfl) | (refine ex4 h_1 ?_; clear h_1; rintro Y o ho hol hr_; first | obtain ⟨to, rfl⟩ := hr_) | (refine ex3 h_1 ?_; clear h_1; rintro Y o ho hr_; first | (refine and3 hr_ ?_; clear hr_; rintro hol to rfl) | obtain ⟨hol, to, rfl⟩ := hr_) | (refine ex2 h_1 ?_; clear h_1; rintro Y o hr_; first | (refine and4 hr_ ?_; clear hr_; rintro ho hol to rfl) | (refine and3 hr_ ?_; clear hr_; rintro ho hol ⟨to, rfl⟩) | obtain ⟨ho, hol, to, rfl⟩ := hr_) | (refine ex1 h_1 ?_; clear h_1; rintro Y hr_; first | (refine and5 hr_ ?_; clear hr_; rintro o ho hol to rfl) | (refine and4 hr_ ?_; clear hr_; rintro o ho hol ⟨to, rfl⟩) | (refine and3 hr_ ?_; clear hr_; rintro o ho ⟨hol, to, rfl⟩) | obtain ⟨o, ho, hol, to, rfl⟩ := hr_) | (first | (refine and6 h_1 ?_; clear h_1; rintro Y o ho hol to rfl) | (refine and5 h_1 ?_; clear h_1; rintro Y o ho hol ⟨to, rfl⟩) | (refine and4 h_1 ?_; clear h_1; rintro Y o ho ⟨hol, to, rfl⟩) | (refine and3 h_1 ?_; clear h_1; rintro Y o ⟨ho, hol, to, rfl⟩) | obtain ⟨Y, o, ho, hol, to, rfl⟩ := h_1)
    refine k_ ?_
    clear k_ X_
    walk_at "ms"
    have hfv := hE.len
    refine w_append (vs := fv) (mu := mu₂ ++ (pre ++ ((fo, .lst fv) :: acc))) (Up.appR (Up.appR Up.head pre) mu₂) (by rw [sizeLine_eq]; omega) ?_
    refine Seq.next ?_
    walk_at "ms"
    refine ⟨fv ++ [.str o to], fs ++ [o], mu₂ ++ pre, acc, (List.append_assoc ..).symm, hE.snoc ⟨to, rfl⟩, by rw [List.length_append, hfl]; rfl, ?_, ?_, ?_, ?_⟩
    · intro x hx
      rcases List.mem_append.mp hx with hx | hx
      · exact hfs x hx
      · rw [List.mem_singleton.mp hx]
        exact ⟨⟨X, Y, ho⟩, hol⟩
    · walk_at "ml0"
    · walk_at "ml0"
    · walk_at "ml0"
  case fin =>
    rintro ⟨m, mu⟩ h_1
    refine hide ?_
    intro X_ k_
    first | (refine ex10 h_1 ?_; clear h_1; rintro fv fs pre acc hmu hE hfl hfs m1 m2 m3) | (refine ex9 h_1 ?_; clear h_1; rintro fv fs pre acc hmu hE hfl hfs m1 hr_; first | obtain ⟨m2, m3⟩ := hr_) | (refine ex8 h_1 ?_; clear h_1; rintro fv fs pre acc hmu hE hfl hfs hr_; first | (refine and3 hr_ ?_; clear hr_; rintro m1 m2 m3) | obtain ⟨m1, m2, m3⟩ := hr_) | (refine ex7 h_1 ?_; clear h_1; rintro fv fs pre acc hmu hE hfl hr_; first | (refine and4 hr_ ?_; clear hr_; rintro hfs m1 m2 m3) | (refine and3 hr_ ?_; clear hr_; rintro hfs m1 ⟨m2, m3⟩) | obtain ⟨hfs, m1, m2, m3⟩ := hr_) | (refine ex6 h_1 ?_; clear h_1; rintro fv fs pre acc hmu hE hr_; first | (refine and5 hr_ ?_; clear hr_; rintro hfl hfs m1 m2 m3) | (refine and4 hr_ ?_; clear hr_; rintro hfl hfs m1 ⟨m2, m3⟩) | (refine and3 hr_ ?_; clear hr_; rintro hfl hfs ⟨m1, m2, m3⟩) | obtain ⟨hfl, hfs, m1, m2, m3⟩ := hr_) | (refine ex5 h_1 ?_; clear h_1; rintro fv fs pre acc hmu hr_; first | (refine and6 hr_ ?_; clear hr_; rintro hE hfl hfs m1 m2 m3) | (refine and5 hr_ ?_; clear hr_; rintro hE hfl hfs m1 ⟨m2, m3⟩) | (refine and4 hr_ ?_; clear hr_; rintro hE hfl hfs ⟨m1, m2, m3⟩) | (refine and3 hr_ ?_; clear hr_; rintro hE hfl ⟨hfs, m1, m2, m3⟩) | obtain ⟨hE, hfl, hfs, m1, m2, m3⟩ := hr_) | (refine ex4 h_1 ?_; clear h_1; rintro fv fs pre acc hr_; first | (refine and7 hr_ ?_; clear hr_; rintro hmu hE hfl hfs m1 m2 m3) | (refine and6 hr_ ?_; clear hr_; rintro hmu hE hfl hfs m1 ⟨m2, m3⟩) | (refine and5 hr_ ?_; clear hr_; rintro hmu hE hfl hfs ⟨m1, m2, m3⟩) | (refine and4 hr_ ?_; clear hr_; rintro hmu hE hfl ⟨hfs, m1, m2, m3⟩) | (refine and3 hr_ ?_; clear hr_; rintro hmu hE ⟨hfl, hfs, m1, m2, m3⟩) | obtain ⟨hmu, hE, hfl, hfs, m1, m2, m3⟩ := hr_) | (refine ex3 h_1 ?_; clear h_1; rintro fv fs pre hr_; first | (refine and8 hr_ ?_; clear hr_; rintro acc hmu hE hfl hfs m1 m2 m3) | (refine and7 hr_ ?_; clear hr_; rintro acc hmu hE hfl hfs m1 ⟨m2, m3⟩) | (refine and6 hr_ ?_; clear hr_; rintro acc hmu hE hfl hfs ⟨m1, m2, m3⟩) | (refine and5 hr_ ?_; clear hr_; rintro acc hmu hE hfl ⟨hfs, m1, m2, m3⟩) | (refine and4 hr_ ?_; clear hr_; rintro acc hmu hE ⟨hfl, hfs, m1, m2, m3⟩) | (refine and3 hr_ ?_; clear hr_; rintro acc hmu ⟨hE, hfl, hfs, m1, m2, m3⟩) | obtain ⟨acc, hmu, hE, hfl, hfs, m1, m2, m3⟩ := hr_) | (refine ex2 h_1 ?_; clear h_1; rintro fv fs hr_; first | (refine and9 hr_ ?_; clear hr_; rintro pre acc hmu hE hfl hfs m1 m2 m3) | (refine and8 hr_ ?_; clear hr_; rintro pre acc hmu hE hfl hfs m1 ⟨m2, m3⟩) | (refine and7 hr_ ?_; clear hr_; rintro pre acc hmu hE hfl hfs ⟨m1, m2, m3⟩) | (refine and6 hr_ ?_; clear hr_; rintro pre acc hmu hE hfl ⟨hfs, m1, m2, m3⟩) | (refine and5 hr_ ?_; clear hr_; rintro pre acc hmu hE ⟨hfl, hfs, m1, m2, m3⟩) | (refine and4 hr_ ?_; clear hr_; rintro pre acc hmu ⟨hE, hfl, hfs, m1, m2, m3⟩) | (refine and3 hr_ ?_; clear hr_; rintro pre acc ⟨hmu, hE, hfl, hfs, m1, m2, m3⟩) | obtain ⟨pre, acc, hmu, hE, hfl, hfs, m1, m2, m3⟩ := hr_) | (refine ex1 h_1 ?_; clear h_1; rintro fv hr_; first | (refine and10 hr_ ?_; clear hr_; rintro fs pre acc hmu hE hfl hfs m1 m2 m3) | (refine and9 hr_ ?_; clear hr_; rintro fs pre acc hmu hE hfl hfs m1 ⟨m2, m3⟩) | (refine and8 hr_ ?_; clear hr_; rintro fs pre acc hmu hE hfl hfs ⟨m1, m2, m3⟩) | (refine and7 hr_ ?_; clear hr_; rintro fs pre acc hmu hE hfl ⟨hfs, m1, m2, m3⟩) | (refine and6 hr_ ?_; clear hr_; rintro fs pre acc hmu hE ⟨hfl, hfs, m1, m2, m3⟩) | (refine and5 hr_ ?_; clear hr_; rintro fs pre acc hmu ⟨hE, hfl, hfs, m1, m2, m3⟩) | (refine and4 hr_ ?_; clear hr_; rintro fs pre acc ⟨hmu, hE, hfl, hfs, m1, m2, m3⟩) | (refine and3 hr_ ?_; clear hr_; rintro fs pre ⟨acc, hmu, hE, hfl, hfs, m1, m2, m3⟩) | obtain ⟨fs, pre, acc, hmu, hE, hfl, hfs, m1, m2, m3⟩ := hr_) | (first | (refine and11 h_1 ?_; clear h_1; rintro fv fs pre acc hmu hE hfl hfs m1 m2 m3) | (refine and10 h_1 ?_; clear h_1; rintro fv fs pre acc hmu hE hfl hfs m1 ⟨m2, m3⟩) | (refine and9 h_1 ?_; clear h_1; rintro fv fs pre acc hmu hE hfl hfs ⟨m1, m2, m3⟩) | (refine and8 h_1 ?_; clear h_1; rintro fv fs pre acc hmu hE hfl ⟨hfs, m1, m2, m3⟩) | (refine and7 h_1 ?_; clear h_1; rintro fv fs pre acc hmu hE ⟨hfl, hfs, m1, m2, m3⟩) | (refine and6 h_1 ?_; clear h_1; rintro fv fs pre acc hmu ⟨hE, hfl, hfs, m1, m2, m3⟩) | (refine and5 h_1 ?_; clear h_1; rintro fv fs pre acc ⟨hmu, hE, hfl, hfs, m1, m2, m3⟩) | (refine and4 h_1 ?_; clear h_1; rintro fv fs pre ⟨acc, hmu, hE, hfl, hfs, m1, m2, m3⟩) | (refine and3 h_1 ?_; clear h_1; rintro fv fs ⟨pre, acc, hmu, hE, hfl, hfs, m1, m2, m3⟩) | obtain ⟨fv, fs, pre, acc, hmu, hE, hfl, hfs, m1, m2, m3⟩ := h_1)
    refine k_ ?_
    clear k_ X_
    dsimp only at hmu m1 m2 m3
    subst hmu
    walk_at "ms"
    dsimp only
    obtain ⟨x, rfl⟩ : ∃ x, fs = [x] := by
      match fs, hfl with
      | [x], _ => exact ⟨x, rfl⟩
    obtain ⟨h1, h2⟩ := hfs x (.head _)
    refine w_joinE (kn_mu (.tail _ (List.mem_append_right pre (.head _)))) hE (joinFew 216000 1 (fun y hy => by rw [List.mem_singleton.mp hy]; exact h2) (Nat.le_refl _) (by decide)) fun t' => ?_
    exact ⟨x, h1, t', congrArg (fun s => Value.str s t') (catS_one x)⟩
end
end Mine
end -- F21

section -- F22
open PySem PySem.W PySem.Calls PyProof.Rows PySem.Builtin
namespace Mine
section
variable {prog : Program} {w : World} {O : Heap} {A : Around} {P : Params} {mg mb : Str → Option Value} {g : Kn}

theorem canonEl_ok (G : Gnd (hk.heap_1 P) O mg mb) (hA : Amb A 7) {T : TA} {t : List NR} (hT : TreeIs T t) (hg : inG g (treeLed T)) {rk : R4 → Nat} {l : Lvl} {ls : List Lvl} {path : List Nat} {uss : List (List (Str × Str))} (hF : FromTop rk t l ls path uss) {te : Tok} :
    Calls prog w O A (.ref 143) [.ref T.x, .int l.e te] g [] (fun v _ => ∃ o, FormOut rk uss (l :: ls) o ∧ SV o v) := by
  refine Calls.fn (n := 6) [("comments", .bool true), ("node", .int l.e te), ("tree", .ref T.x)] G hA (by k_is) (by k_is) (fun s gr => BindsTo.of_defaults rfl (gr _ _ (G.X _ _ (by k_is))) rfl (by rfl) (by rfl)) (locs rfl) ?_ (by rfl) (by rfl) (by rfl) (by decide)
  intro L s env c hA G
  have hh : c.A.handled = none := hA.handled
  have kT1 := tg1 hg
  have kT2 := tg2 hg
  obtain ⟨⟨_, hLv, _⟩⟩ : Nonempty (ChainOk rk t _ (l :: ls)) := ⟨hF.ok ""⟩
  refine hide ?_
  intro X_ k_
  first | (refine ex4 (hLv.row) ?_; rintro nrl hnrl hnk hnn hnc) | (refine ex3 (hLv.row) ?_; rintro nrl hnrl hnk hr_; first | obtain ⟨hnn, hnc⟩ := hr_) | (refine ex2 (hLv.row) ?_; rintro nrl hnrl hr_; first | (refine and3 hr_ ?_; clear hr_; rintro hnk hnn hnc) | obtain ⟨hnk, hnn, hnc⟩ := hr_) | (refine ex1 (hLv.row) ?_; rintro nrl hr_; first | (refine and4 hr_ ?_; clear hr_; rintro hnrl hnk hnn hnc) | (refine and3 hr_ ?_; clear hr_; rintro hnrl hnk ⟨hnn, hnc⟩) | obtain ⟨hnrl, hnk, hnn, hnc⟩ := hr_) | (first | (refine and5 (hLv.row) ?_; rintro nrl hnrl hnk hnn hnc) | (refine and4 (hLv.row) ?_; rintro nrl hnrl hnk ⟨hnn, hnc⟩) | (refine and3 (hLv.row) ?_; rintro nrl hnrl ⟨hnk, hnn, hnc⟩) | obtain ⟨nrl, hnrl, hnk, hnn, hnc⟩ := (hLv.row))
  refine k_ ?_
  clear k_ X_
  walk_at "ms"
  walk_at "mmeth"
  walk_at "ms"
  refine w_callPure _ (fun g' h1 h2 => kind_ok G hA.le hT (hg.mono h1) hnrl) ?_
  rintro _ ⟨t2, rfl⟩
  rw [hnk]
  walk_at "ms"
  refine Br.ff (by decide +kernel) ?_
  walk_at "ms"
  walk_at "mmeth"
  walk_at "ms"
  refine w_callPure _ (fun g' h1 h2 => kind_ok G hA.le hT (hg.mono h1) hnrl) ?_
  rintro _ ⟨t3, rfl⟩
  rw [hnk]
  walk_at "ms"
  refine Br.tt (by decide +kernel) ?_
  walk_at "ms"
  refine w_call (mu := []) _ (fun g'' h1 h2 => scope_ok G hA.le hT (hg.mono h1) hF.up hF.ns hF.pl hF.ul) ?_
  rintro _ mu₂ h_2
  refine hide ?_
  intro X_ k_
  first | (refine ex3 h_2 ?_; clear h_2; rintro sd X ks hr_; first | (refine and3 hr_ ?_; clear hr_; rintro rfl hsd hD) | obtain ⟨rfl, hsd, hD⟩ := hr_) | (refine ex2 h_2 ?_; clear h_2; rintro sd X hr_; first | (refine and4 hr_ ?_; clear hr_; rintro ks rfl hsd hD) | (refine and3 hr_ ?_; clear hr_; rintro ks rfl ⟨hsd, hD⟩) | obtain ⟨ks, rfl, hsd, hD⟩ := hr_) | (refine ex1 h_2 ?_; clear h_2; rintro sd hr_; first | (refine and5 hr_ ?_; clear hr_; rintro X ks rfl hsd hD) | (refine and4 hr_ ?_; clear hr_; rintro X ks rfl ⟨hsd, hD⟩) | (refine and3 hr_ ?_; clear hr_; rintro X ks ⟨rfl, hsd, hD⟩) | obtain ⟨X, ks, rfl, hsd, hD⟩ := hr_) | (first | (refine and6 h_2 ?_; clear h_2; rintro sd X ks rfl hsd hD) | (refine and5 h_2 ?_; clear h_2; rintro sd X ks rfl ⟨hsd, hD⟩) | (refine and4 h_2 ?_; clear h_2; rintro sd X ks ⟨rfl, hsd, hD⟩) | (refine and3 h_2 ?_; clear h_2; rintro sd X ⟨ks, rfl, hsd, hD⟩) | obtain ⟨sd, X, ks, rfl, hsd, hD⟩ := h_2)
  refine k_ ?_
  clear k_ X_
  walk_at "ms"
  refine w_callPure _ (fun g'' h1 h2 => element_ok G hA.le hT (hg.mono h1) (hF.ok X) hF.len (h2 (_, _) (List.mem_append_left _ hsd)) hD) ?_
  rintro _ h_1
  refine hide ?_
  intro X_ k_
  first | (refine ex5 h_1 ?_; clear h_1; rintro Y o ho hol to rfl) | (refine ex4 h_1 ?_; clear h_1; rintro Y o ho hol hr_; first | obtain ⟨to, rfl⟩ := hr_) | (refine ex3 h_1 ?_; clear h_1; rintro Y o ho hr_; first | (refine and3 hr_ ?_; clear hr_; rintro hol to rfl) | obtain ⟨hol, to, rfl⟩ := hr_) | (refine ex2 h_1 ?_; clear h_1; rintro Y o hr_; first | (refine and4 hr_ ?_; clear hr_; rintro ho hol to rfl) | (refine and3 hr_ ?_; clear hr_; rintro ho hol ⟨to, rfl⟩) | obtain ⟨ho, hol, to, rfl⟩ := hr_) | (refine ex1 h_1 ?_; clear h_1; rintro Y hr_; first | (refine and5 hr_ ?_; clear hr_; rintro o ho hol to rfl) | (refine and4 hr_ ?_; clear hr_; rintro o ho hol ⟨to, rfl⟩) | (refine and3 hr_ ?_; clear hr_; rintro o ho ⟨hol, to, rfl⟩) | obtain ⟨o, ho, hol, to, rfl⟩ := hr_) | (first | (refine and6 h_1 ?_; clear h_1; rintro Y o ho hol to rfl) | (refine and5 h_1 ?_; clear h_1; rintro Y o ho hol ⟨to, rfl⟩) | (refine and4 h_1 ?_; clear h_1; rintro Y o ho ⟨hol, to, rfl⟩) | (refine and3 h_1 ?_; clear h_1; rintro Y o ⟨ho, hol, to, rfl⟩) | obtain ⟨Y, o, ho, hol, to, rfl⟩ := h_1)
  refine k_ ?_
  clear k_ X_
  exact ⟨o, ⟨X, Y, ho⟩, to, rfl⟩
theorem canonRoot_ok (G : Gnd (hk.heap_1 P) O mg mb) (hA : Amb A 7) {T : TA} {t : List NR} (hT : TreeIs T t) (hg : inG g (treeLed T)) {rk : R4 → Nat} {l : Lvl} {ls : List Lvl} {path : List Nat} {uss : List (List (Str × Str))} (hF : FromTop rk t l ls path uss)
    {i : Nat} {ti : Tok} {nr : NR} (hnr : t[i]? = some nr) (hch : nr.ch = [l.e]) (hkd : nr.kind = Str.ofString "root") :
    Calls prog w O A (.ref 143) [.ref T.x, .int i ti] g [] (fun v _ => ∃ o, FormOut rk uss (l :: ls) o ∧ SV o v) := by
  refine Calls.fn (n := 6) [("comments", .bool true), ("node", .int i ti), ("tree", .ref T.x)] G hA (by k_is) (by k_is) (fun s gr => BindsTo.of_defaults rfl (gr _ _ (G.X _ _ (by k_is))) rfl (by rfl) (by rfl)) (locs rfl) ?_ (by rfl) (by rfl) (by rfl) (by decide)
  intro L s env c hA G
  have hh : c.A.handled = none := hA.handled
  have kT1 := tg1 hg
  have kT2 := tg2 hg
  walk_at "ms"
  walk_at "mmeth"
  walk_at "ms"
  refine w_callPure _ (fun g' h1 h2 => kind_ok G hA.le hT (hg.mono h1) hnr) ?_
  rintro _ ⟨t2, rfl⟩
  rw [hkd]
  walk_at "ms"
  refine Br.tt (by decide +kernel) ?_
  walk_at "ms"
  refine w_callPure _ (fun g'' h1 h2 => root_ok G hA.le hT (hg.mono h1) hF hnr hch) ?_
  rintro _ h_1
  refine hide ?_
  intro X_ k_
  first | (refine ex3 h_1 ?_; clear h_1; rintro o ho to rfl) | (refine ex2 h_1 ?_; clear h_1; rintro o ho hr_; first | obtain ⟨to, rfl⟩ := hr_) | (refine ex1 h_1 ?_; clear h_1; rintro o hr_; first | (refine and3 hr_ ?_; clear hr_; rintro ho to rfl) | obtain ⟨ho, to, rfl⟩ := hr_) | (first | (refine and4 h_1 ?_; clear h_1; rintro o ho to rfl) | (refine and3 h_1 ?_; clear h_1; rintro o ho ⟨to, rfl⟩) | obtain ⟨o, ho, to, rfl⟩ := h_1)
  refine k_ ?_
  clear k_ X_
  exact ⟨o, ho, to, rfl⟩
end
end Mine
end -- F22

section -- F23
open PySem PySem.W PySem.Calls PyProof.Rows PySem.Builtin
namespace Mine
section
variable {prog : Program} {w : World} {O : Heap} {A : Around} {P : Params} {mg mb : Str → Option Value} {g : Kn}

theorem wordFacts {x : Str} (h : x ∈ wordL) : ∀ b, JoinOk "" (x.cps.toList.map (signOf b)) = true ∧ x.cps.size ≤ 1000 ∧ (signsOf b x).length ≤ 40 := by
  have h' : x = "" ∨ x = "a" ∨ x = "<&>" ∨ x = "\"" ∨ x = "\t\n\r" ∨ x = "'" := by simpa [wordL] using h
  rcases h' with rfl | rfl | rfl | rfl | rfl | rfl <;> decide +kernel
noncomputable def tagInit (sc kn : List (Str × Str)) : Str := if (look kn "").isSome && !(look sc "").isSome then " xmlns=\"\"" else ""
noncomputable def tagStep (sc kn : List (Str × Str)) (f p : Str) : Str :=
  match look sc p with
  | none => f
  | some u => if look kn p = some u then f else f ++ " xmlns" ++ (if p = "" then Str.ofString "" else Str.ofString ":" ++ p) ++ "=\"" ++ u ++ "\""
noncomputable def orderL : List (Str × Str) := [("", "k"), ("q", "a"), ("q", "m"), ("r", "k"), ("p", "k")]
noncomputable def tagAtt (k : Str × Str) (f : Str) (a : Str × Str × Str) : Str :=
  if a.1 = k.1 ∧ a.2.1 = k.2 then f ++ " " ++ qn k.1 k.2 ++ "=\"" ++ signsOf true a.2.2 ++ "\"" else f
noncomputable def tagAtts (as : List (Str × Str × Str)) (f : Str) (k : Str × Str) : Str := as.foldl (tagAtt k) f
noncomputable def lawTag (r : Row) (sc kn : List (Str × Str)) : Str := Str.ofString "<" ++ r.name ++ orderL.foldl (tagAtts r.attrs) (prefL.foldl (tagStep sc kn) (tagInit sc kn)) ++ ">"
structure TagB (r : Row) (sc : List (Str × Str)) : Prop where
  name : r.name.length ≤ 10
  val : ∀ p u, look sc p = some u → u.length ≤ 20
  words : ∀ a ∈ r.attrs, a.2.2 ∈ wordL
  alen : r.attrs.length ≤ 10

theorem tag_ok (G : Gnd (hk.heap_1 P) O mg mb) (hA : Amb A 3) {r : Row} {rv : Value} {sd kd : Addr} {k1 k2 : List (Str × Value)} {sc kn' : List (Str × Str)} (hr : RowV g r rv) (h1 : g sd (.dct k1)) (h2 : g kd (.dct k2)) (hD1 : DctIs sc k1) (hD2 : DctIs kn' k2) (hB : TagB r sc) :
    Calls prog w O A (.ref 413) [rv, .ref sd, .ref kd] g [] (fun v _ => SV (lawTag r sc kn') v ∧ (lawTag r sc kn').length ≤ 5300) := by
  refine hide ?_
  intro X_ k_
  first | (refine ex7 hr ?_; clear hr; rintro ra tn bu us ba as tx hr_; first | (refine and6 hr_ ?_; clear hr_; rintro rfl hr1 hr2 hr3 hr4 hr5) | (refine and5 hr_ ?_; clear hr_; rintro rfl hr1 hr2 hr3 ⟨hr4, hr5⟩) | (refine and4 hr_ ?_; clear hr_; rintro rfl hr1 hr2 ⟨hr3, hr4, hr5⟩) | (refine and3 hr_ ?_; clear hr_; rintro rfl hr1 ⟨hr2, hr3, hr4, hr5⟩) | obtain ⟨rfl, hr1, hr2, hr3, hr4, hr5⟩ := hr_) | (refine ex6 hr ?_; clear hr; rintro ra tn bu us ba as hr_; first | (refine and7 hr_ ?_; clear hr_; rintro tx rfl hr1 hr2 hr3 hr4 hr5) | (refine and6 hr_ ?_; clear hr_; rintro tx rfl hr1 hr2 hr3 ⟨hr4, hr5⟩) | (refine and5 hr_ ?_; clear hr_; rintro tx rfl hr1 hr2 ⟨hr3, hr4, hr5⟩) | (refine and4 hr_ ?_; clear hr_; rintro tx rfl hr1 ⟨hr2, hr3, hr4, hr5⟩) | (refine and3 hr_ ?_; clear hr_; rintro tx rfl ⟨hr1, hr2, hr3, hr4, hr5⟩) | obtain ⟨tx, rfl, hr1, hr2, hr3, hr4, hr5⟩ := hr_) | (refine ex5 hr ?_; clear hr; rintro ra tn bu us ba hr_; first | (refine and8 hr_ ?_; clear hr_; rintro as tx rfl hr1 hr2 hr3 hr4 hr5) | (refine and7 hr_ ?_; clear hr_; rintro as tx rfl hr1 hr2 hr3 ⟨hr4, hr5⟩) | (refine and6 hr_ ?_; clear hr_; rintro as tx rfl hr1 hr2 ⟨hr3, hr4, hr5⟩) | (refine and5 hr_ ?_; clear hr_; rintro as tx rfl hr1 ⟨hr2, hr3, hr4, hr5⟩) | (refine and4 hr_ ?_; clear hr_; rintro as tx rfl ⟨hr1, hr2, hr3, hr4, hr5⟩) | (refine and3 hr_ ?_; clear hr_; rintro as tx ⟨rfl, hr1, hr2, hr3, hr4, hr5⟩) | obtain ⟨as, tx, rfl, hr1, hr2, hr3, hr4, hr5⟩ := hr_) | (refine ex4 hr ?_; clear hr; rintro ra tn bu us hr_; first | (refine and9 hr_ ?_; clear hr_; rintro ba as tx rfl hr1 hr2 hr3 hr4 hr5) | (refine and8 hr_ ?_; clear hr_; rintro ba as tx rfl hr1 hr2 hr3 ⟨hr4, hr5⟩) | (refine and7 hr_ ?_; clear hr_; rintro ba as tx rfl hr1 hr2 ⟨hr3, hr4, hr5⟩) | (refine and6 hr_ ?_; clear hr_; rintro ba as tx rfl hr1 ⟨hr2, hr3, hr4, hr5⟩) | (refine and5 hr_ ?_; clear hr_; rintro ba as tx rfl ⟨hr1, hr2, hr3, hr4, hr5⟩) | (refine and4 hr_ ?_; clear hr_; rintro ba as tx ⟨rfl, hr1, hr2, hr3, hr4, hr5⟩) | (refine and3 hr_ ?_; clear hr_; rintro ba as ⟨tx, rfl, hr1, hr2, hr3, hr4, hr5⟩) | obtain ⟨ba, as, tx, rfl, hr1, hr2, hr3, hr4, hr5⟩ := hr_) | (refine ex3 hr ?_; clear hr; rintro ra tn bu hr_; first | (refine and10 hr_ ?_; clear hr_; rintro us ba as tx rfl hr1 hr2 hr3 hr4 hr5) | (refine and9 hr_ ?_; clear hr_; rintro us ba as tx rfl hr1 hr2 hr3 ⟨hr4, hr5⟩) | (refine and8 hr_ ?_; clear hr_; rintro us ba as tx rfl hr1 hr2 ⟨hr3, hr4, hr5⟩) | (refine and7 hr_ ?_; clear hr_; rintro us ba as tx rfl hr1 ⟨hr2, hr3, hr4, hr5⟩) | (refine and6 hr_ ?_; clear hr_; rintro us ba as tx rfl ⟨hr1, hr2, hr3, hr4, hr5⟩) | (refine and5 hr_ ?_; clear hr_; rintro us ba as tx ⟨rfl, hr1, hr2, hr3, hr4, hr5⟩) | (refine and4 hr_ ?_; clear hr_; rintro us ba as ⟨tx, rfl, hr1, hr2, hr3, hr4, hr5⟩) | (refine and3 hr_ ?_; clear hr_; rintro us ba ⟨as, tx, rfl, hr1, hr2, hr3, hr4, hr5⟩) | obtain ⟨us, ba, as, tx, rfl, hr1, hr2, hr3, hr4, hr5⟩ := hr_) | (refine ex2 hr ?_; clear hr; rintro ra tn hr_; first | (refine and11 hr_ ?_; clear hr_; rintro bu us ba as tx rfl hr1 hr2 hr3 hr4 hr5) | (refine and10 hr_ ?_; clear hr_; rintro bu us ba as tx rfl hr1 hr2 hr3 ⟨hr4, hr5⟩) | (refine and9 hr_ ?_; clear hr_; rintro bu us ba as tx rfl hr1 hr2 ⟨hr3, hr4, hr5⟩) | (refine and8 hr_ ?_; clear hr_; rintro bu us ba as tx rfl hr1 ⟨hr2, hr3, hr4, hr5⟩) | (refine and7 hr_ ?_; clear hr_; rintro bu us ba as tx rfl ⟨hr1, hr2, hr3, hr4, hr5⟩) | (refine and6 hr_ ?_; clear hr_; rintro bu us ba as tx ⟨rfl, hr1, hr2, hr3, hr4, hr5⟩) | (refine and5 hr_ ?_; clear hr_; rintro bu us ba as ⟨tx, rfl, hr1, hr2, hr3, hr4, hr5⟩) | (refine and4 hr_ ?_; clear hr_; rintro bu us ba ⟨as, tx, rfl, hr1, hr2, hr3, hr4, hr5⟩) | (refine and3 hr_ ?_; clear hr_; rintro bu us ⟨ba, as, tx, rfl, hr1, hr2, hr3, hr4, hr5⟩) | obtain ⟨bu, us, ba, as, tx, rfl, hr1, hr2, hr3, hr4, hr5⟩ := hr_) | (refine ex1 hr ?_; clear hr; rintro ra hr_; first | (refine and12 hr_ ?_; clear hr_; rintro tn bu us ba as tx rfl hr1 hr2 hr3 hr4 hr5) | (refine and11 hr_ ?_; clear hr_; rintro tn bu us ba as tx rfl hr1 hr2 hr3 ⟨hr4, hr5⟩) | (refine and10 hr_ ?_; clear hr_; rintro tn bu us ba as tx rfl hr1 hr2 ⟨hr3, hr4, hr5⟩) | (refine and9 hr_ ?_; clear hr_; rintro tn bu us ba as tx rfl hr1 ⟨hr2, hr3, hr4, hr5⟩) | (refine and8 hr_ ?_; clear hr_; rintro tn bu us ba as tx rfl ⟨hr1, hr2, hr3, hr4, hr5⟩) | (refine and7 hr_ ?_; clear hr_; rintro tn bu us ba as tx ⟨rfl, hr1, hr2, hr3, hr4, hr5⟩) | (refine and6 hr_ ?_; clear hr_; rintro tn bu us ba as ⟨tx, rfl, hr1, hr2, hr3, hr4, hr5⟩) | (refine and5 hr_ ?_; clear hr_; rintro tn bu us ba ⟨as, tx, rfl, hr1, hr2, hr3, hr4, hr5⟩) | (refine and4 hr_ ?_; clear hr_; rintro tn bu us ⟨ba, as, tx, rfl, hr1, hr2, hr3, hr4, hr5⟩) | (refine and3 hr_ ?_; clear hr_; rintro tn bu ⟨us, ba, as, tx, rfl, hr1, hr2, hr3, hr4, hr5⟩) | obtain ⟨tn, bu, us, ba, as, tx, rfl, hr1, hr2, hr3, hr4, hr5⟩ := hr_) | (first | (refine and13 hr ?_; clear hr; rintro ra tn bu us ba as tx rfl hr1 hr2 hr3 hr4 hr5) | (refine and12 hr ?_; clear hr; rintro ra tn bu us ba as tx rfl hr1 hr2 hr3 ⟨hr4, hr5⟩) | (refine and11 hr ?_; clear hr; rintro ra tn bu us ba as tx rfl hr1 hr2 ⟨hr3, hr4, hr5⟩) | (refine and10 hr ?_; clear hr; rintro ra tn bu us ba as tx rfl hr1 ⟨hr2, hr3, hr4, hr5⟩) | (refine and9 hr ?_; clear hr; rintro ra tn bu us ba as tx rfl ⟨hr1, hr2, hr3, hr4, hr5⟩) | (refine and8 hr ?_; clear hr; rintro ra tn bu us ba as tx ⟨rfl, hr1, hr2, hr3, hr4, hr5⟩) | (refine and7 hr ?_; clear hr; rintro ra tn bu us ba as ⟨tx, rfl, hr1, hr2, hr3, hr4, hr5⟩) | (refine and6 hr ?_; clear hr; rintro ra tn bu us ba ⟨as, tx, rfl, hr1, hr2, hr3, hr4, hr5⟩) | (refine and5 hr ?_; clear hr; rintro ra tn bu us ⟨ba, as, tx, rfl, hr1, hr2, hr3, hr4, hr5⟩) | (refine and4 hr ?_; clear hr; rintro ra tn bu ⟨us, ba, as, tx, rfl, hr1, hr2, hr3, hr4, hr5⟩) | (refine and3 hr ?_; clear hr; rintro ra tn ⟨bu, us, ba, as, tx, rfl, hr1, hr2, hr3, hr4, hr5⟩) | obtain ⟨ra, tn, bu, us, ba, as, tx, rfl, hr1, hr2, hr3, hr4, hr5⟩ := hr)
  refine k_ ?_
  clear k_ X_
  refine Calls.fn (n := 2) [("known", .ref kd), ("scope", .ref sd), ("row", .ref ra)] G hA (by k_is) (by k_is) (fun _ _ => BindsTo.of_eq rfl) (locs rfl) ?_ (by rfl) (by rfl) (by rfl) (by decide)
  intro L s env c hA G
  have hh : c.A.handled = none := hA.handled
  refine w_seq (W.mono (Q := fun f st => f = .next ∧ ∃ t, st.m "tag_words" = some (.str (tagInit sc kn') t) ∧ st.m "scope" = some (.ref sd) ∧ st.m "known" = some (.ref kd) ∧ st.m "row" = some (.ref ra) ∧ st.mu = []) ?_ ?_)
  · walk_at "ms"
    refine w_inDct (kn_g h2) ?_
    rw [hD2.isSome]
    walk_at "ms"
    refine Br.of (fun b1 => ?_) (fun b1 => ?_)
    · walk_at "ms"
      refine w_notInDct (kn_g h1) ?_
      rw [hD1.isSome]
      walk_at "ms"
      refine Br.of (fun b2 => ?_) (fun b2 => ?_)
      · walk_at "ms"
        have e : tagInit sc kn' = " xmlns=\"\"" := by unfold tagInit; rw [b1, b2]; rfl
        rw [e]
        exact ⟨rfl, _, by walk_at "ml0", by walk_at "ml0", by walk_at "ml0", by walk_at "ml0", rfl⟩
      · walk_at "ms"
        have e : tagInit sc kn' = "" := by unfold tagInit; rw [b1, b2]; rfl
        rw [e]
        exact ⟨rfl, _, by walk_at "ml0", by walk_at "ml0", by walk_at "ml0", by walk_at "ml0", rfl⟩
    · walk_at "ms"
      have e : tagInit sc kn' = "" := by unfold tagInit; rw [b1]; rfl
      rw [e]
      exact ⟨rfl, _, by walk_at "ml0", by walk_at "ml0", by walk_at "ml0", by walk_at "ml0", rfl⟩
  · rintro _ ⟨m, mu⟩ h_2
    refine hide ?_
    intro X_ k_
    first | (first | (refine and7 h_2 ?_; clear h_2; rintro rfl t0 m1 m2 m3 m4 hmu) | (refine and6 h_2 ?_; clear h_2; rintro rfl t0 m1 m2 m3 ⟨m4, hmu⟩) | (refine and5 h_2 ?_; clear h_2; rintro rfl t0 m1 m2 ⟨m3, m4, hmu⟩) | (refine and4 h_2 ?_; clear h_2; rintro rfl t0 m1 ⟨m2, m3, m4, hmu⟩) | (refine and3 h_2 ?_; clear h_2; rintro rfl t0 ⟨m1, m2, m3, m4, hmu⟩) | obtain ⟨rfl, t0, m1, m2, m3, m4, hmu⟩ := h_2)
    refine k_ ?_
    clear k_ X_
    dsimp only at m1 m2 m3 m4 hmu
    subst hmu
    refine Seq.next ?_
    have c1 : (Str.ofString " xmlns").length = 6 := by decide +kernel
    have c2 : (Str.ofString ":").length = 1 := by decide +kernel
    have c3 : (Str.ofString "=\"").length = 2 := by decide +kernel
    have c4 : (Str.ofString "\"").length = 1 := by decide +kernel
    have c5 : (Str.ofString "").length = 0 := by decide +kernel
    have c6 : (Str.ofString " ").length = 1 := by decide +kernel
    have c7 : (Str.ofString "<").length = 1 := by decide +kernel
    have c8 : (Str.ofString ">").length = 1 := by decide +kernel
    have hl0 : (tagInit sc kn').length ≤ 20 := by
      unfold tagInit
      split <;> decide +kernel
    walk_at "ms"
    rename_i a1 a2 a3 a4 _ _ _ ll
    have hx : Each SV prefL [.str "" a1, .str "p" a2, .str "q" a3, .str "r" a4] := ⟨⟨_, rfl⟩, ⟨_, rfl⟩, ⟨_, rfl⟩, ⟨_, rfl⟩, trivial⟩
    have hp1 : ∀ p ∈ prefL, p.length ≤ 1 := by
      intro p hp
      have h' : p = "" ∨ p = "p" ∨ p = "q" ∨ p = "r" := by simpa [prefL] using hp
      rcases h' with e | e | e | e <;> rw [e] <;> decide +kernel
    refine w_freeze (fr := [(ll, .lst [.str "" a1, .str "p" a2, .str "q" a3, .str "r" a4])]) (mu := []) ?_
    refine w_forSrc (src_lst hh (.inr (.head _)) fun _ => dr_name) (fun j st => ∃ t f, f = (prefL.take j).foldl (tagStep sc kn') (tagInit sc kn') ∧ f.length ≤ 20 + 50 * j ∧ st.m "tag_words" = some (.str f t) ∧ st.m "scope" = some (.ref sd) ∧ st.m "known" = some (.ref kd) ∧ st.m "row" = some (.ref ra) ∧ st.mu = []) ?h0 ?turn ?fin
    case h0 => exact ⟨t0, _, rfl, hl0, m1, m2, m3, m4, rfl⟩
    case turn =>
      clear m1 m2 m3 m4
      rintro j v ⟨m, mu⟩ g' hj hv h_6 hg'
      refine hide ?_
      intro X_ k_
      first | (refine ex8 h_6 ?_; clear h_6; rintro t1 f hf hfl m1 m2 m3 m4 hmu) | (refine ex7 h_6 ?_; clear h_6; rintro t1 f hf hfl m1 m2 m3 hr_; first | obtain ⟨m4, hmu⟩ := hr_) | (refine ex6 h_6 ?_; clear h_6; rintro t1 f hf hfl m1 m2 hr_; first | (refine and3 hr_ ?_; clear hr_; rintro m3 m4 hmu) | obtain ⟨m3, m4, hmu⟩ := hr_) | (refine ex5 h_6 ?_; clear h_6; rintro t1 f hf hfl m1 hr_; first | (refine and4 hr_ ?_; clear hr_; rintro m2 m3 m4 hmu) | (refine and3 hr_ ?_; clear hr_; rintro m2 m3 ⟨m4, hmu⟩) | obtain ⟨m2, m3, m4, hmu⟩ := hr_) | (refine ex4 h_6 ?_; clear h_6; rintro t1 f hf hfl hr_; first | (refine and5 hr_ ?_; clear hr_; rintro m1 m2 m3 m4 hmu) | (refine and4 hr_ ?_; clear hr_; rintro m1 m2 m3 ⟨m4, hmu⟩) | (refine and3 hr_ ?_; clear hr_; rintro m1 m2 ⟨m3, m4, hmu⟩) | obtain ⟨m1, m2, m3, m4, hmu⟩ := hr_) | (refine ex3 h_6 ?_; clear h_6; rintro t1 f hf hr_; first | (refine and6 hr_ ?_; clear hr_; rintro hfl m1 m2 m3 m4 hmu) | (refine and5 hr_ ?_; clear hr_; rintro hfl m1 m2 m3 ⟨m4, hmu⟩) | (refine and4 hr_ ?_; clear hr_; rintro hfl m1 m2 ⟨m3, m4, hmu⟩) | (refine and3 hr_ ?_; clear hr_; rintro hfl m1 ⟨m2, m3, m4, hmu⟩) | obtain ⟨hfl, m1, m2, m3, m4, hmu⟩ := hr_) | (refine ex2 h_6 ?_; clear h_6; rintro t1 f hr_; first | (refine and7 hr_ ?_; clear hr_; rintro hf hfl m1 m2 m3 m4 hmu) | (refine and6 hr_ ?_; clear hr_; rintro hf hfl m1 m2 m3 ⟨m4, hmu⟩) | (refine and5 hr_ ?_; clear hr_; rintro hf hfl m1 m2 ⟨m3, m4, hmu⟩) | (refine and4 hr_ ?_; clear hr_; rintro hf hfl m1 ⟨m2, m3, m4, hmu⟩) | (refine and3 hr_ ?_; clear hr_; rintro hf hfl ⟨m1, m2, m3, m4, hmu⟩) | obtain ⟨hf, hfl, m1, m2, m3, m4, hmu⟩ := hr_) | (refine ex1 h_6 ?_; clear h_6; rintro t1 hr_; first | (refine and8 hr_ ?_; clear hr_; rintro f hf hfl m1 m2 m3 m4 hmu) | (refine and7 hr_ ?_; clear hr_; rintro f hf hfl m1 m2 m3 ⟨m4, hmu⟩) | (refine and6 hr_ ?_; clear hr_; rintro f hf hfl m1 m2 ⟨m3, m4, hmu⟩) | (refine and5 hr_ ?_; clear hr_; rintro f hf hfl m1 ⟨m2, m3, m4, hmu⟩) | (refine and4 hr_ ?_; clear hr_; rintro f hf hfl ⟨m1, m2, m3, m4, hmu⟩) | (refine and3 hr_ ?_; clear hr_; rintro f hf ⟨hfl, m1, m2, m3, m4, hmu⟩) | obtain ⟨f, hf, hfl, m1, m2, m3, m4, hmu⟩ := hr_) | (first | (refine and9 h_6 ?_; clear h_6; rintro t1 f hf hfl m1 m2 m3 m4 hmu) | (refine and8 h_6 ?_; clear h_6; rintro t1 f hf hfl m1 m2 m3 ⟨m4, hmu⟩) | (refine and7 h_6 ?_; clear h_6; rintro t1 f hf hfl m1 m2 ⟨m3, m4, hmu⟩) | (refine and6 h_6 ?_; clear h_6; rintro t1 f hf hfl m1 ⟨m2, m3, m4, hmu⟩) | (refine and5 h_6 ?_; clear h_6; rintro t1 f hf hfl ⟨m1, m2, m3, m4, hmu⟩) | (refine and4 h_6 ?_; clear h_6; rintro t1 f hf ⟨hfl, m1, m2, m3, m4, hmu⟩) | (refine and3 h_6 ?_; clear h_6; rintro t1 f ⟨hf, hfl, m1, m2, m3, m4, hmu⟩) | obtain ⟨t1, f, hf, hfl, m1, m2, m3, m4, hmu⟩ := h_6)
      refine k_ ?_
      clear k_ X_
      dsimp only at m1 m2 m3 m4 hmu
      subst hmu
      have hj4 : j < 4 := hj
      refine hide ?_
      intro X_ k_
      first | (refine ex3 (hx.get' hv) ?_; rintro p hp tp rfl) | (refine ex2 (hx.get' hv) ?_; rintro p hp hr_; first | obtain ⟨tp, rfl⟩ := hr_) | (refine ex1 (hx.get' hv) ?_; rintro p hr_; first | (refine and3 hr_ ?_; clear hr_; rintro hp tp rfl) | obtain ⟨hp, tp, rfl⟩ := hr_) | (first | (refine and4 (hx.get' hv) ?_; rintro p hp tp rfl) | (refine and3 (hx.get' hv) ?_; rintro p hp ⟨tp, rfl⟩) | obtain ⟨p, hp, tp, rfl⟩ := (hx.get' hv))
      refine k_ ?_
      clear k_ X_
      have hpl := hp1 p (List.mem_of_getElem? hp)
      have h1' := hg' _ _ (.inl h1)
      have h2' := hg' _ _ (.inl h2)
      have est : (prefL.take (j + 1)).foldl (tagStep sc kn') (tagInit sc kn') = tagStep sc kn' f p := by
        rw [List.take_add_one, hp, List.foldl_append, ← hf]; rfl
      rw [est]
      clear hf est
      walk_at "msi"
      refine w_if (W.mono (Q := fun b st => (b = true ↔ ∃ u, look sc p = some u ∧ ¬ look kn' p = some u) ∧ st.m "tag_words" = some (.str f t1) ∧ st.m "scope" = some (.ref sd) ∧ st.m "known" = some (.ref kd) ∧ st.m "row" = some (.ref ra) ∧ st.m "prefix" = some (.str p tp) ∧ st.mu = []) ?_ ?_)
      · walk_at "ms"
        refine w_inDct (kn_g h1') ?_
        rw [hD1.isSome]
        walk_at "ms"
        cases e : look sc p with
        | none =>
          refine Br.ff (by rfl) ?_
          exact ⟨⟨fun h => (by cases h), fun h => (by obtain ⟨u, h, _⟩ := h; cases h)⟩, by walk_at "ml0", by walk_at "ml0", by walk_at "ml0", by walk_at "ml0", by walk_at "ml0", rfl⟩
        | some u =>
          refine Br.tt (by rfl) ?_
          refine hide ?_
          intro X_ k_
          first | (refine ex3 (hD1.some e) ?_; rintro uv huv tu rfl) | (refine ex2 (hD1.some e) ?_; rintro uv huv hr_; first | obtain ⟨tu, rfl⟩ := hr_) | (refine ex1 (hD1.some e) ?_; rintro uv hr_; first | (refine and3 hr_ ?_; clear hr_; rintro huv tu rfl) | obtain ⟨huv, tu, rfl⟩ := hr_) | (first | (refine and4 (hD1.some e) ?_; rintro uv huv tu rfl) | (refine and3 (hD1.some e) ?_; rintro uv huv ⟨tu, rfl⟩) | obtain ⟨uv, huv, tu, rfl⟩ := (hD1.some e))
          refine k_ ?_
          clear k_ X_
          walk_at "ms"
          refine w_notInDct (kn_g h2') ?_
          rw [hD2.isSome]
          walk_at "ms"
          cases e2 : look kn' p with
          | none =>
            refine Br.tt (by rfl) ?_
            walk_at "ms"
            exact ⟨⟨fun _ => ⟨u, rfl, by simp⟩, fun _ => rfl⟩, by walk_at "ml0", by walk_at "ml0", by walk_at "ml0", by walk_at "ml0", by walk_at "ml0", rfl⟩
          | some y =>
            refine Br.ff (by rfl) ?_
            refine hide ?_
            intro X_ k_
            first | (refine ex3 (hD2.some e2) ?_; rintro yv hyv ty rfl) | (refine ex2 (hD2.some e2) ?_; rintro yv hyv hr_; first | obtain ⟨ty, rfl⟩ := hr_) | (refine ex1 (hD2.some e2) ?_; rintro yv hr_; first | (refine and3 hr_ ?_; clear hr_; rintro hyv ty rfl) | obtain ⟨hyv, ty, rfl⟩ := hr_) | (first | (refine and4 (hD2.some e2) ?_; rintro yv hyv ty rfl) | (refine and3 (hD2.some e2) ?_; rintro yv hyv ⟨ty, rfl⟩) | obtain ⟨yv, hyv, ty, rfl⟩ := (hD2.some e2))
            refine k_ ?_
            clear k_ X_
            walk_at "ms"
            refine w_itemDct (kn_g h2') hyv ?_ sub_name
            walk_at "ms"
            refine w_itemDct (kn_g h1') huv ?_ sub_name
            walk_at "ms"
            refine Br.of (fun b2 => ?_) (fun b2 => ?_)
            · walk_at "ms"
              exact ⟨⟨fun _ => ⟨u, rfl, by simpa using b2⟩, fun _ => rfl⟩, by walk_at "ml0", by walk_at "ml0", by walk_at "ml0", by walk_at "ml0", by walk_at "ml0", rfl⟩
            · walk_at "ms"
              have b2' : y = u := by simpa using b2
              exact ⟨⟨fun h => (by cases h), fun h => (by obtain ⟨z, h, h'⟩ := h; cases h; exact absurd (by rw [b2']) h')⟩, by walk_at "ml0", by walk_at "ml0", by walk_at "ml0", by walk_at "ml0", by walk_at "ml0", rfl⟩
      · clear m1 m2 m3 m4
        rintro b ⟨m, mu⟩ h_2
        refine hide ?_
        intro X_ k_
        first | (refine ex6 h_2 ?_; clear h_2; rintro hb m1 m2 m3 m4 m5 hmu) | (refine ex5 h_2 ?_; clear h_2; rintro hb m1 m2 m3 m4 hr_; first | obtain ⟨m5, hmu⟩ := hr_) | (refine ex4 h_2 ?_; clear h_2; rintro hb m1 m2 m3 hr_; first | (refine and3 hr_ ?_; clear hr_; rintro m4 m5 hmu) | obtain ⟨m4, m5, hmu⟩ := hr_) | (refine ex3 h_2 ?_; clear h_2; rintro hb m1 m2 hr_; first | (refine and4 hr_ ?_; clear hr_; rintro m3 m4 m5 hmu) | (refine and3 hr_ ?_; clear hr_; rintro m3 m4 ⟨m5, hmu⟩) | obtain ⟨m3, m4, m5, hmu⟩ := hr_) | (refine ex2 h_2 ?_; clear h_2; rintro hb m1 hr_; first | (refine and5 hr_ ?_; clear hr_; rintro m2 m3 m4 m5 hmu) | (refine and4 hr_ ?_; clear hr_; rintro m2 m3 m4 ⟨m5, hmu⟩) | (refine and3 hr_ ?_; clear hr_; rintro m2 m3 ⟨m4, m5, hmu⟩) | obtain ⟨m2, m3, m4, m5, hmu⟩ := hr_) | (refine ex1 h_2 ?_; clear h_2; rintro hb hr_; first | (refine and6 hr_ ?_; clear hr_; rintro m1 m2 m3 m4 m5 hmu) | (refine and5 hr_ ?_; clear hr_; rintro m1 m2 m3 m4 ⟨m5, hmu⟩) | (refine and4 hr_ ?_; clear hr_; rintro m1 m2 m3 ⟨m4, m5, hmu⟩) | (refine and3 hr_ ?_; clear hr_; rintro m1 m2 ⟨m3, m4, m5, hmu⟩) | obtain ⟨m1, m2, m3, m4, m5, hmu⟩ := hr_) | (first | (refine and7 h_2 ?_; clear h_2; rintro hb m1 m2 m3 m4 m5 hmu) | (refine and6 h_2 ?_; clear h_2; rintro hb m1 m2 m3 m4 ⟨m5, hmu⟩) | (refine and5 h_2 ?_; clear h_2; rintro hb m1 m2 m3 ⟨m4, m5, hmu⟩) | (refine and4 h_2 ?_; clear h_2; rintro hb m1 m2 ⟨m3, m4, m5, hmu⟩) | (refine and3 h_2 ?_; clear h_2; rintro hb m1 ⟨m2, m3, m4, m5, hmu⟩) | obtain ⟨hb, m1, m2, m3, m4, m5, hmu⟩ := h_2)
        refine k_ ?_
        clear k_ X_
        dsimp only at m1 m2 m3 m4 m5 hmu
        subst hmu
        refine Br.of (fun hb' => ?_) (fun hb' => ?_)
        · obtain ⟨u, hu, hk⟩ := hb.mp hb'
          refine hide ?_
          intro X_ k_
          first | (refine ex3 (hD1.some hu) ?_; rintro uv huv tu rfl) | (refine ex2 (hD1.some hu) ?_; rintro uv huv hr_; first | obtain ⟨tu, rfl⟩ := hr_) | (refine ex1 (hD1.some hu) ?_; rintro uv hr_; first | (refine and3 hr_ ?_; clear hr_; rintro huv tu rfl) | obtain ⟨huv, tu, rfl⟩ := hr_) | (first | (refine and4 (hD1.some hu) ?_; rintro uv huv tu rfl) | (refine and3 (hD1.some hu) ?_; rintro uv huv ⟨tu, rfl⟩) | obtain ⟨uv, huv, tu, rfl⟩ := (hD1.some hu))
          refine k_ ?_
          clear k_ X_
          have hul := hB.val _ _ hu
          have est2 : tagStep sc kn' f p = f ++ " xmlns" ++ (if p = "" then Str.ofString "" else Str.ofString ":" ++ p) ++ "=\"" ++ u ++ "\"" := by
            unfold tagStep
            rw [hu]
            dsimp only
            rw [if_neg hk]
          rw [est2]
          walk_at "ms"
          refine w_addStr (fun _ => ?_) (by omega)
          walk_at "ms"
          refine Br.of (fun hz => ?_) (fun hz => ?_)
          focus
            walk_at "ms"
            refine w_addStr (fun _ => ?_) (by omega)
          rotate_left
          focus
            walk_at "ms"
          rotate_left
          all_goals
            walk_at "ms"
            refine w_addStr (fun _ => ?_) (by (try simp only [strLen_add]); omega)
            walk_at "ms"
            refine w_addStr (fun _ => ?_) (by (try simp only [strLen_add]); omega)
            walk_at "ms"
            refine w_itemDct (kn_g h1') huv ?_ sub_name
            walk_at "ms"
            refine w_addStr (fun _ => ?_) (by (try simp only [strLen_add]); omega)
            walk_at "ms"
            refine w_addStr (fun _ => ?_) (by (try simp only [strLen_add]); omega)
            walk_at "ms"
          · rw [if_neg (by simpa using hz)]
            exact ⟨_, _, rfl, by simp only [strLen_add]; omega, by walk_at "ml0", by walk_at "ml0", by walk_at "ml0", by walk_at "ml0", rfl⟩
          · rw [if_pos (by simpa using hz)]
            exact ⟨_, _, rfl, by simp only [strLen_add]; omega, by walk_at "ml0", by walk_at "ml0", by walk_at "ml0", by walk_at "ml0", rfl⟩
        · have n : tagStep sc kn' f p = f := by
            unfold tagStep
            cases e : look sc p with
            | none => rfl
            | some u =>
              dsimp only
              rw [if_pos]
              exact Classical.byContradiction fun n2 => by rw [hb.mpr ⟨u, e, n2⟩] at hb'; cases hb'
          walk_at "ms"
          rw [n]
          exact ⟨t1, f, rfl, by omega, by walk_at "ml0", by walk_at "ml0", by walk_at "ml0", by walk_at "ml0", rfl⟩
    case fin =>
      clear m1 m2 m3 m4
      rintro ⟨m, mu⟩ h_1
      refine hide ?_
      intro X_ k_
      first | (refine ex8 h_1 ?_; clear h_1; rintro t1 f hf hfl m1 m2 m3 m4 hmu) | (refine ex7 h_1 ?_; clear h_1; rintro t1 f hf hfl m1 m2 m3 hr_; first | obtain ⟨m4, hmu⟩ := hr_) | (refine ex6 h_1 ?_; clear h_1; rintro t1 f hf hfl m1 m2 hr_; first | (refine and3 hr_ ?_; clear hr_; rintro m3 m4 hmu) | obtain ⟨m3, m4, hmu⟩ := hr_) | (refine ex5 h_1 ?_; clear h_1; rintro t1 f hf hfl m1 hr_; first | (refine and4 hr_ ?_; clear hr_; rintro m2 m3 m4 hmu) | (refine and3 hr_ ?_; clear hr_; rintro m2 m3 ⟨m4, hmu⟩) | obtain ⟨m2, m3, m4, hmu⟩ := hr_) | (refine ex4 h_1 ?_; clear h_1; rintro t1 f hf hfl hr_; first | (refine and5 hr_ ?_; clear hr_; rintro m1 m2 m3 m4 hmu) | (refine and4 hr_ ?_; clear hr_; rintro m1 m2 m3 ⟨m4, hmu⟩) | (refine and3 hr_ ?_; clear hr_; rintro m1 m2 ⟨m3, m4, hmu⟩) | obtain ⟨m1, m2, m3, m4, hmu⟩ := hr_) | (refine ex3 h_1 ?_; clear h_1; rintro t1 f hf hr_; first | (refine and6 hr_ ?_; clear hr_; rintro hfl m1 m2 m3 m4 hmu) | (refine and5 hr_ ?_; clear hr_; rintro hfl m1 m2 m3 ⟨m4, hmu⟩) | (refine and4 hr_ ?_; clear hr_; rintro hfl m1 m2 ⟨m3, m4, hmu⟩) | (refine and3 hr_ ?_; clear hr_; rintro hfl m1 ⟨m2, m3, m4, hmu⟩) | obtain ⟨hfl, m1, m2, m3, m4, hmu⟩ := hr_) | (refine ex2 h_1 ?_; clear h_1; rintro t1 f hr_; first | (refine and7 hr_ ?_; clear hr_; rintro hf hfl m1 m2 m3 m4 hmu) | (refine and6 hr_ ?_; clear hr_; rintro hf hfl m1 m2 m3 ⟨m4, hmu⟩) | (refine and5 hr_ ?_; clear hr_; rintro hf hfl m1 m2 ⟨m3, m4, hmu⟩) | (refine and4 hr_ ?_; clear hr_; rintro hf hfl m1 ⟨m2, m3, m4, hmu⟩) | (refine and3 hr_ ?_; clear hr_; rintro hf hfl ⟨m1, m2, m3, m4, hmu⟩) | obtain ⟨hf, hfl, m1, m2, m3, m4, hmu⟩ := hr_) | (refine ex1 h_1 ?_; clear h_1; rintro t1 hr_; first | (refine and8 hr_ ?_; clear hr_; rintro f hf hfl m1 m2 m3 m4 hmu) | (refine and7 hr_ ?_; clear hr_; rintro f hf hfl m1 m2 m3 ⟨m4, hmu⟩) | (refine and6 hr_ ?_; clear hr_; rintro f hf hfl m1 m2 ⟨m3, m4, hmu⟩) | (refine and5 hr_ ?_; clear hr_; rintro f hf hfl m1 ⟨m2, m3, m4, hmu⟩) | (refine and4 hr_ ?_; clear hr_; rintro f hf hfl ⟨m1, m2, m3, m4, hmu⟩) | (refine and3 hr_ ?_; clear hr_; rintro f hf ⟨hfl, m1, m2, m3, m4, hmu⟩) | obtain ⟨f, hf, hfl, m1, m2, m3, m4, hmu⟩ := hr_) | (first | (refine and9 h_1 ?_; clear h_1; rintro t1 f hf hfl m1 m2 m3 m4 hmu) | (refine and8 h_1 ?_; clear h_1; rintro t1 f hf hfl m1 m2 m3 ⟨m4, hmu⟩) | (refine and7 h_1 ?_; clear h_1; rintro t1 f hf hfl m1 m2 ⟨m3, m4, hmu⟩) | (refine and6 h_1 ?_; clear h_1; rintro t1 f hf hfl m1 ⟨m2, m3, m4, hmu⟩) | (refine and5 h_1 ?_; clear h_1; rintro t1 f hf hfl ⟨m1, m2, m3, m4, hmu⟩) | (refine and4 h_1 ?_; clear h_1; rintro t1 f hf ⟨hfl, m1, m2, m3, m4, hmu⟩) | (refine and3 h_1 ?_; clear h_1; rintro t1 f ⟨hf, hfl, m1, m2, m3, m4, hmu⟩) | obtain ⟨t1, f, hf, hfl, m1, m2, m3, m4, hmu⟩ := h_1)
      refine k_ ?_
      clear k_ X_
      dsimp only at m1 m2 m3 m4 hmu
      subst hmu
      walk_at "ms"
      rename_i a1 b1 _ _ _ q1 a2 b2 _ _ _ q2 a3 b3 _ _ _ q3 a4 b4 _ _ _ q4 a5 b5 _ _ _ q5 ql
      have hf4 : f = prefL.foldl (tagStep sc kn') (tagInit sc kn') := hf
      have hfl4 : f.length ≤ 220 := hfl
      clear hf hfl
      obtain ⟨fr, hfr⟩ : ∃ fr : Led, fr = [(ql, .lst [.ref q1, .ref q2, .ref q3, .ref q4, .ref q5]), (q5, .tup [.str "p" a5, .str "k" b5]), (q4, .tup [.str "r" a4, .str "k" b4]), (q3, .tup [.str "q" a3, .str "m" b3]), (q2, .tup [.str "q" a2, .str "a" b2]), (q1, .tup [.str "" a1, .str "k" b1])] := ⟨_, rfl⟩
      have hx : Each (V2 (inL fr)) orderL [.ref q1, .ref q2, .ref q3, .ref q4, .ref q5] := by
        subst hfr
        refine ⟨⟨q1, a1, b1, rfl, ?_⟩, ⟨q2, a2, b2, rfl, ?_⟩, ⟨q3, a3, b3, rfl, ?_⟩, ⟨q4, a4, b4, rfl, ?_⟩, ⟨q5, a5, b5, rfl, ?_⟩, trivial⟩
        · exact .tail _ (.tail _ (.tail _ (.tail _ (.tail _ (.head _)))))
        · exact .tail _ (.tail _ (.tail _ (.tail _ (.head _))))
        · exact .tail _ (.tail _ (.tail _ (.head _)))
        · exact .tail _ (.tail _ (.head _))
        · exact .tail _ (.head _)
      have hql : (ql, Sh.lst [.ref q1, .ref q2, .ref q3, .ref q4, .ref q5]) ∈ fr := by rw [hfr]; exact .head _
      refine w_sub fr (by rw [hfr]; exact List.sublist_append_left [_, _, _, _, _, _] _) ?_
      refine w_pad ?_
      refine w_freeze (fr := fr) (mu := []) ?_
      refine w_forSrc (src_lst hh (.inr hql) fun _ => dr_tupL) (fun j st => ∃ t f', f' = (orderL.take j).foldl (tagAtts r.attrs) f ∧ f'.length ≤ 220 + 1000 * j ∧ st.m "tag_words" = some (.str f' t) ∧ st.m "row" = some (.ref ra) ∧ st.mu = []) ?h02 ?turn2 ?fin2
      case h02 => exact ⟨t1, f, rfl, by omega, by walk_at "ml0", by walk_at "ml0", rfl⟩
      case turn2 =>
        clear m1 m2 m3 m4
        rintro j v ⟨m, mu⟩ g' hj hv h_6 hg'
        refine hide ?_
        intro X_ k_
        first | (refine ex6 h_6 ?_; clear h_6; rintro t2 f2 hf2 hfl2 m1 m2 hmu) | (refine ex5 h_6 ?_; clear h_6; rintro t2 f2 hf2 hfl2 m1 hr_; first | obtain ⟨m2, hmu⟩ := hr_) | (refine ex4 h_6 ?_; clear h_6; rintro t2 f2 hf2 hfl2 hr_; first | (refine and3 hr_ ?_; clear hr_; rintro m1 m2 hmu) | obtain ⟨m1, m2, hmu⟩ := hr_) | (refine ex3 h_6 ?_; clear h_6; rintro t2 f2 hf2 hr_; first | (refine and4 hr_ ?_; clear hr_; rintro hfl2 m1 m2 hmu) | (refine and3 hr_ ?_; clear hr_; rintro hfl2 m1 ⟨m2, hmu⟩) | obtain ⟨hfl2, m1, m2, hmu⟩ := hr_) | (refine ex2 h_6 ?_; clear h_6; rintro t2 f2 hr_; first | (refine and5 hr_ ?_; clear hr_; rintro hf2 hfl2 m1 m2 hmu) | (refine and4 hr_ ?_; clear hr_; rintro hf2 hfl2 m1 ⟨m2, hmu⟩) | (refine and3 hr_ ?_; clear hr_; rintro hf2 hfl2 ⟨m1, m2, hmu⟩) | obtain ⟨hf2, hfl2, m1, m2, hmu⟩ := hr_) | (refine ex1 h_6 ?_; clear h_6; rintro t2 hr_; first | (refine and6 hr_ ?_; clear hr_; rintro f2 hf2 hfl2 m1 m2 hmu) | (refine and5 hr_ ?_; clear hr_; rintro f2 hf2 hfl2 m1 ⟨m2, hmu⟩) | (refine and4 hr_ ?_; clear hr_; rintro f2 hf2 hfl2 ⟨m1, m2, hmu⟩) | (refine and3 hr_ ?_; clear hr_; rintro f2 hf2 ⟨hfl2, m1, m2, hmu⟩) | obtain ⟨f2, hf2, hfl2, m1, m2, hmu⟩ := hr_) | (first | (refine and7 h_6 ?_; clear h_6; rintro t2 f2 hf2 hfl2 m1 m2 hmu) | (refine and6 h_6 ?_; clear h_6; rintro t2 f2 hf2 hfl2 m1 ⟨m2, hmu⟩) | (refine and5 h_6 ?_; clear h_6; rintro t2 f2 hf2 hfl2 ⟨m1, m2, hmu⟩) | (refine and4 h_6 ?_; clear h_6; rintro t2 f2 hf2 ⟨hfl2, m1, m2, hmu⟩) | (refine and3 h_6 ?_; clear h_6; rintro t2 f2 ⟨hf2, hfl2, m1, m2, hmu⟩) | obtain ⟨t2, f2, hf2, hfl2, m1, m2, hmu⟩ := h_6)
        refine k_ ?_
        clear k_ X_
        dsimp only at m1 m2 hmu
        subst hmu
        have hj5 : j < 5 := hj
        refine hide ?_
        intro X_ k_
        first | (refine ex5 (hx.get' hv) ?_; rintro k hk qa ta tb hr_; first | obtain ⟨rfl, hq⟩ := hr_) | (refine ex4 (hx.get' hv) ?_; rintro k hk qa ta hr_; first | (refine and3 hr_ ?_; clear hr_; rintro tb rfl hq) | obtain ⟨tb, rfl, hq⟩ := hr_) | (refine ex3 (hx.get' hv) ?_; rintro k hk qa hr_; first | (refine and4 hr_ ?_; clear hr_; rintro ta tb rfl hq) | (refine and3 hr_ ?_; clear hr_; rintro ta tb ⟨rfl, hq⟩) | obtain ⟨ta, tb, rfl, hq⟩ := hr_) | (refine ex2 (hx.get' hv) ?_; rintro k hk hr_; first | (refine and5 hr_ ?_; clear hr_; rintro qa ta tb rfl hq) | (refine and4 hr_ ?_; clear hr_; rintro qa ta tb ⟨rfl, hq⟩) | (refine and3 hr_ ?_; clear hr_; rintro qa ta ⟨tb, rfl, hq⟩) | obtain ⟨qa, ta, tb, rfl, hq⟩ := hr_) | (refine ex1 (hx.get' hv) ?_; rintro k hr_; first | (refine and6 hr_ ?_; clear hr_; rintro hk qa ta tb rfl hq) | (refine and5 hr_ ?_; clear hr_; rintro hk qa ta tb ⟨rfl, hq⟩) | (refine and4 hr_ ?_; clear hr_; rintro hk qa ta ⟨tb, rfl, hq⟩) | (refine and3 hr_ ?_; clear hr_; rintro hk qa ⟨ta, tb, rfl, hq⟩) | obtain ⟨hk, qa, ta, tb, rfl, hq⟩ := hr_) | (first | (refine and7 (hx.get' hv) ?_; rintro k hk qa ta tb rfl hq) | (refine and6 (hx.get' hv) ?_; rintro k hk qa ta tb ⟨rfl, hq⟩) | (refine and5 (hx.get' hv) ?_; rintro k hk qa ta ⟨tb, rfl, hq⟩) | (refine and4 (hx.get' hv) ?_; rintro k hk qa ⟨ta, tb, rfl, hq⟩) | (refine and3 (hx.get' hv) ?_; rintro k hk ⟨qa, ta, tb, rfl, hq⟩) | obtain ⟨k, hk, qa, ta, tb, rfl, hq⟩ := (hx.get' hv))
        refine k_ ?_
        clear k_ X_
        have hq' := hg' _ _ (.inr hq)
        have hr1' := hg' _ _ (.inl hr1)
        have hr4' := hg' _ _ (.inl hr4)
        have hkl : k.1.length ≤ 1 ∧ k.2.length ≤ 1 := by
          have : ∀ k ∈ orderL, k.1.length ≤ 1 ∧ k.2.length ≤ 1 := by decide +kernel
          exact this k (List.mem_of_getElem? hk)
        have est : (orderL.take (j + 1)).foldl (tagAtts r.attrs) f = tagAtts r.attrs f2 k := by
          rw [List.take_add_one, hk, List.foldl_append, ← hf2]; rfl
        rw [est]
        clear hf2 est
        walk_at "ms"
        refine w_itemTup (.inl hr1') (by decide) rfl (by rw [sizeLine_eq]; show (4 : Nat) ≤ _; decide) ?_ sub_int
        walk_at "ms"
        have hal := hB.alen
        refine w_forSrc (src_lst hh hr4' fun _ => dr_name) (fun i st => ∃ t f', f' = (r.attrs.take i).foldl (tagAtt k) f2 ∧ f'.length ≤ f2.length + 80 * i ∧ st.m "tag_words" = some (.str f' t) ∧ st.m "row" = some (.ref ra) ∧ st.m "prefix" = some (.str k.1 ta) ∧ st.m "local" = some (.str k.2 tb) ∧ st.mu = []) ?h03 ?turn3 ?fin3
        case h03 => exact ⟨t2, f2, rfl, by omega, by walk_at "ml0", by walk_at "ml0", by walk_at "ml0", by walk_at "ml0", rfl⟩
        case turn3 =>
          clear m1 m2
          rintro i v ⟨m, mu⟩ g'' hi hv h_6 hg''
          refine hide ?_
          intro X_ k_
          first | (refine ex8 h_6 ?_; clear h_6; rintro t3 f3 hf3 hfl3 m1 m2 m3 m4 hmu) | (refine ex7 h_6 ?_; clear h_6; rintro t3 f3 hf3 hfl3 m1 m2 m3 hr_; first | obtain ⟨m4, hmu⟩ := hr_) | (refine ex6 h_6 ?_; clear h_6; rintro t3 f3 hf3 hfl3 m1 m2 hr_; first | (refine and3 hr_ ?_; clear hr_; rintro m3 m4 hmu) | obtain ⟨m3, m4, hmu⟩ := hr_) | (refine ex5 h_6 ?_; clear h_6; rintro t3 f3 hf3 hfl3 m1 hr_; first | (refine and4 hr_ ?_; clear hr_; rintro m2 m3 m4 hmu) | (refine and3 hr_ ?_; clear hr_; rintro m2 m3 ⟨m4, hmu⟩) | obtain ⟨m2, m3, m4, hmu⟩ := hr_) | (refine ex4 h_6 ?_; clear h_6; rintro t3 f3 hf3 hfl3 hr_; first | (refine and5 hr_ ?_; clear hr_; rintro m1 m2 m3 m4 hmu) | (refine and4 hr_ ?_; clear hr_; rintro m1 m2 m3 ⟨m4, hmu⟩) | (refine and3 hr_ ?_; clear hr_; rintro m1 m2 ⟨m3, m4, hmu⟩) | obtain ⟨m1, m2, m3, m4, hmu⟩ := hr_) | (refine ex3 h_6 ?_; clear h_6; rintro t3 f3 hf3 hr_; first | (refine and6 hr_ ?_; clear hr_; rintro hfl3 m1 m2 m3 m4 hmu) | (refine and5 hr_ ?_; clear hr_; rintro hfl3 m1 m2 m3 ⟨m4, hmu⟩) | (refine and4 hr_ ?_; clear hr_; rintro hfl3 m1 m2 ⟨m3, m4, hmu⟩) | (refine and3 hr_ ?_; clear hr_; rintro hfl3 m1 ⟨m2, m3, m4, hmu⟩) | obtain ⟨hfl3, m1, m2, m3, m4, hmu⟩ := hr_) | (refine ex2 h_6 ?_; clear h_6; rintro t3 f3 hr_; first | (refine and7 hr_ ?_; clear hr_; rintro hf3 hfl3 m1 m2 m3 m4 hmu) | (refine and6 hr_ ?_; clear hr_; rintro hf3 hfl3 m1 m2 m3 ⟨m4, hmu⟩) | (refine and5 hr_ ?_; clear hr_; rintro hf3 hfl3 m1 m2 ⟨m3, m4, hmu⟩) | (refine and4 hr_ ?_; clear hr_; rintro hf3 hfl3 m1 ⟨m2, m3, m4, hmu⟩) | (refine and3 hr_ ?_; clear hr_; rintro hf3 hfl3 ⟨m1, m2, m3, m4, hmu⟩) | obtain ⟨hf3, hfl3, m1, m2, m3, m4, hmu⟩ := hr_) | (refine ex1 h_6 ?_; clear h_6; rintro t3 hr_; first | (refine and8 hr_ ?_; clear hr_; rintro f3 hf3 hfl3 m1 m2 m3 m4 hmu) | (refine and7 hr_ ?_; clear hr_; rintro f3 hf3 hfl3 m1 m2 m3 ⟨m4, hmu⟩) | (refine and6 hr_ ?_; clear hr_; rintro f3 hf3 hfl3 m1 m2 ⟨m3, m4, hmu⟩) | (refine and5 hr_ ?_; clear hr_; rintro f3 hf3 hfl3 m1 ⟨m2, m3, m4, hmu⟩) | (refine and4 hr_ ?_; clear hr_; rintro f3 hf3 hfl3 ⟨m1, m2, m3, m4, hmu⟩) | (refine and3 hr_ ?_; clear hr_; rintro f3 hf3 ⟨hfl3, m1, m2, m3, m4, hmu⟩) | obtain ⟨f3, hf3, hfl3, m1, m2, m3, m4, hmu⟩ := hr_) | (first | (refine and9 h_6 ?_; clear h_6; rintro t3 f3 hf3 hfl3 m1 m2 m3 m4 hmu) | (refine and8 h_6 ?_; clear h_6; rintro t3 f3 hf3 hfl3 m1 m2 m3 ⟨m4, hmu⟩) | (refine and7 h_6 ?_; clear h_6; rintro t3 f3 hf3 hfl3 m1 m2 ⟨m3, m4, hmu⟩) | (refine and6 h_6 ?_; clear h_6; rintro t3 f3 hf3 hfl3 m1 ⟨m2, m3, m4, hmu⟩) | (refine and5 h_6 ?_; clear h_6; rintro t3 f3 hf3 hfl3 ⟨m1, m2, m3, m4, hmu⟩) | (refine and4 h_6 ?_; clear h_6; rintro t3 f3 hf3 ⟨hfl3, m1, m2, m3, m4, hmu⟩) | (refine and3 h_6 ?_; clear h_6; rintro t3 f3 ⟨hf3, hfl3, m1, m2, m3, m4, hmu⟩) | obtain ⟨t3, f3, hf3, hfl3, m1, m2, m3, m4, hmu⟩ := h_6)
          refine k_ ?_
          clear k_ X_
          dsimp only at m1 m2 m3 m4 hmu
          subst hmu
          refine hide ?_
          intro X_ k_
          first | (refine ex6 (hr5.get' hv) ?_; rintro a ha aa tp tl tv hr_; first | obtain ⟨rfl, hat⟩ := hr_) | (refine ex5 (hr5.get' hv) ?_; rintro a ha aa tp tl hr_; first | (refine and3 hr_ ?_; clear hr_; rintro tv rfl hat) | obtain ⟨tv, rfl, hat⟩ := hr_) | (refine ex4 (hr5.get' hv) ?_; rintro a ha aa tp hr_; first | (refine and4 hr_ ?_; clear hr_; rintro tl tv rfl hat) | (refine and3 hr_ ?_; clear hr_; rintro tl tv ⟨rfl, hat⟩) | obtain ⟨tl, tv, rfl, hat⟩ := hr_) | (refine ex3 (hr5.get' hv) ?_; rintro a ha aa hr_; first | (refine and5 hr_ ?_; clear hr_; rintro tp tl tv rfl hat) | (refine and4 hr_ ?_; clear hr_; rintro tp tl tv ⟨rfl, hat⟩) | (refine and3 hr_ ?_; clear hr_; rintro tp tl ⟨tv, rfl, hat⟩) | obtain ⟨tp, tl, tv, rfl, hat⟩ := hr_) | (refine ex2 (hr5.get' hv) ?_; rintro a ha hr_; first | (refine and6 hr_ ?_; clear hr_; rintro aa tp tl tv rfl hat) | (refine and5 hr_ ?_; clear hr_; rintro aa tp tl tv ⟨rfl, hat⟩) | (refine and4 hr_ ?_; clear hr_; rintro aa tp tl ⟨tv, rfl, hat⟩) | (refine and3 hr_ ?_; clear hr_; rintro aa tp ⟨tl, tv, rfl, hat⟩) | obtain ⟨aa, tp, tl, tv, rfl, hat⟩ := hr_) | (refine ex1 (hr5.get' hv) ?_; rintro a hr_; first | (refine and7 hr_ ?_; clear hr_; rintro ha aa tp tl tv rfl hat) | (refine and6 hr_ ?_; clear hr_; rintro ha aa tp tl tv ⟨rfl, hat⟩) | (refine and5 hr_ ?_; clear hr_; rintro ha aa tp tl ⟨tv, rfl, hat⟩) | (refine and4 hr_ ?_; clear hr_; rintro ha aa tp ⟨tl, tv, rfl, hat⟩) | (refine and3 hr_ ?_; clear hr_; rintro ha aa ⟨tp, tl, tv, rfl, hat⟩) | obtain ⟨ha, aa, tp, tl, tv, rfl, hat⟩ := hr_) | (first | (refine and8 (hr5.get' hv) ?_; rintro a ha aa tp tl tv rfl hat) | (refine and7 (hr5.get' hv) ?_; rintro a ha aa tp tl tv ⟨rfl, hat⟩) | (refine and6 (hr5.get' hv) ?_; rintro a ha aa tp tl ⟨tv, rfl, hat⟩) | (refine and5 (hr5.get' hv) ?_; rintro a ha aa tp ⟨tl, tv, rfl, hat⟩) | (refine and4 (hr5.get' hv) ?_; rintro a ha aa ⟨tp, tl, tv, rfl, hat⟩) | (refine and3 (hr5.get' hv) ?_; rintro a ha ⟨aa, tp, tl, tv, rfl, hat⟩) | obtain ⟨a, ha, aa, tp, tl, tv, rfl, hat⟩ := (hr5.get' hv))
          refine k_ ?_
          clear k_ X_
          have hat' := hg'' _ _ (hg' _ _ (.inl hat))
          obtain ⟨w1, w2, w3⟩ := wordFacts (hB.words a (List.mem_of_getElem? ha)) true
          have hil : i < r.attrs.length := (List.getElem?_eq_some_iff.mp ha).1
          have est : (r.attrs.take (i + 1)).foldl (tagAtt k) f2 = tagAtt k f3 a := by
            rw [List.take_add_one, ha, List.foldl_append, ← hf3]; rfl
          rw [est]
          clear hf3 est
          walk_at "ms"
          intro sb
          dsimp only
          refine w_tupTo2 (.inl hat') (kn_mu (.head _)) (fun d => ?_) sub_slice2
          walk_at "ms"
          refine w_eqPair hA (kn_mu (.tail _ (.head _))) (kn_mu (.head _)) ?_
          refine w_drop [] (List.nil_sublist _) ?_
          walk_at "ms"
          refine Br.of (fun hb => ?_) (fun hb => ?_)
          · have hb1 : a.1 = k.1 ∧ a.2.1 = k.2 := by simpa using hb
            have e : tagAtt k f3 a = f3 ++ " " ++ qn k.1 k.2 ++ "=\"" ++ signsOf true a.2.2 ++ "\"" := if_pos hb1
            rw [e]
            unfold qn
            walk_at "ms"
            refine Br.of (fun hz => ?_) (fun hz => ?_)
            focus
              walk_at "ms"
              refine w_addStr (fun _ => ?_) (by omega)
              walk_at "ms"
              refine w_addStr (fun _ => ?_) (by simp only [strLen_add]; omega)
            rotate_left
            focus
              walk_at "ms"
            rotate_left
            all_goals
              walk_at "ms"
              refine w_addStr (fun _ => ?_) (by (try simp only [strLen_add]); omega)
              walk_at "ms"
              refine w_addStr (fun _ => ?_) (by (try simp only [strLen_add]); omega)
              walk_at "ms"
              refine w_addStr (fun _ => ?_) (by (try simp only [strLen_add]); omega)
              walk_at "ms"
              refine w_itemTup (.inl hat') (by decide) rfl (by rw [sizeLine_eq]; show (3 : Nat) ≤ _; decide) ?_ sub_int
              walk_at "ms"
              refine w_callPure _ (fun g' h1 h2 => signs_ok G hA.le w1 w2) ?_
              rintro _ ⟨ts, rfl⟩
              walk_at "ms"
              refine w_addStr (fun _ => ?_) (by (try simp only [strLen_add]); omega)
              walk_at "ms"
              refine w_addStr (fun _ => ?_) (by (try simp only [strLen_add]); omega)
              walk_at "ms"
            · rw [if_neg (by simpa using hz)]
              exact ⟨_, _, rfl, by simp only [strLen_add]; omega, by walk_at "ml0", by walk_at "ml0", by walk_at "ml0", by walk_at "ml0", rfl⟩
            · rw [if_pos (by simpa using hz)]
              exact ⟨_, _, rfl, by simp only [strLen_add]; omega, by walk_at "ml0", by walk_at "ml0", by walk_at "ml0", by walk_at "ml0", rfl⟩
          · have e : tagAtt k f3 a = f3 := if_neg (by simpa using hb)
            rw [e]
            walk_at "ms"
            exact ⟨t3, f3, rfl, by omega, by walk_at "ml0", by walk_at "ml0", by walk_at "ml0", by walk_at "ml0", rfl⟩
        case fin3 =>
          rintro ⟨m, mu⟩ h_1
          refine hide ?_
          intro X_ k_
          first | (refine ex8 h_1 ?_; clear h_1; rintro t3 f3 hf3 hfl3 m1 m2 m3 m4 hmu) | (refine ex7 h_1 ?_; clear h_1; rintro t3 f3 hf3 hfl3 m1 m2 m3 hr_; first | obtain ⟨m4, hmu⟩ := hr_) | (refine ex6 h_1 ?_; clear h_1; rintro t3 f3 hf3 hfl3 m1 m2 hr_; first | (refine and3 hr_ ?_; clear hr_; rintro m3 m4 hmu) | obtain ⟨m3, m4, hmu⟩ := hr_) | (refine ex5 h_1 ?_; clear h_1; rintro t3 f3 hf3 hfl3 m1 hr_; first | (refine and4 hr_ ?_; clear hr_; rintro m2 m3 m4 hmu) | (refine and3 hr_ ?_; clear hr_; rintro m2 m3 ⟨m4, hmu⟩) | obtain ⟨m2, m3, m4, hmu⟩ := hr_) | (refine ex4 h_1 ?_; clear h_1; rintro t3 f3 hf3 hfl3 hr_; first | (refine and5 hr_ ?_; clear hr_; rintro m1 m2 m3 m4 hmu) | (refine and4 hr_ ?_; clear hr_; rintro m1 m2 m3 ⟨m4, hmu⟩) | (refine and3 hr_ ?_; clear hr_; rintro m1 m2 ⟨m3, m4, hmu⟩) | obtain ⟨m1, m2, m3, m4, hmu⟩ := hr_) | (refine ex3 h_1 ?_; clear h_1; rintro t3 f3 hf3 hr_; first | (refine and6 hr_ ?_; clear hr_; rintro hfl3 m1 m2 m3 m4 hmu) | (refine and5 hr_ ?_; clear hr_; rintro hfl3 m1 m2 m3 ⟨m4, hmu⟩) | (refine and4 hr_ ?_; clear hr_; rintro hfl3 m1 m2 ⟨m3, m4, hmu⟩) | (refine and3 hr_ ?_; clear hr_; rintro hfl3 m1 ⟨m2, m3, m4, hmu⟩) | obtain ⟨hfl3, m1, m2, m3, m4, hmu⟩ := hr_) | (refine ex2 h_1 ?_; clear h_1; rintro t3 f3 hr_; first | (refine and7 hr_ ?_; clear hr_; rintro hf3 hfl3 m1 m2 m3 m4 hmu) | (refine and6 hr_ ?_; clear hr_; rintro hf3 hfl3 m1 m2 m3 ⟨m4, hmu⟩) | (refine and5 hr_ ?_; clear hr_; rintro hf3 hfl3 m1 m2 ⟨m3, m4, hmu⟩) | (refine and4 hr_ ?_; clear hr_; rintro hf3 hfl3 m1 ⟨m2, m3, m4, hmu⟩) | (refine and3 hr_ ?_; clear hr_; rintro hf3 hfl3 ⟨m1, m2, m3, m4, hmu⟩) | obtain ⟨hf3, hfl3, m1, m2, m3, m4, hmu⟩ := hr_) | (refine ex1 h_1 ?_; clear h_1; rintro t3 hr_; first | (refine and8 hr_ ?_; clear hr_; rintro f3 hf3 hfl3 m1 m2 m3 m4 hmu) | (refine and7 hr_ ?_; clear hr_; rintro f3 hf3 hfl3 m1 m2 m3 ⟨m4, hmu⟩) | (refine and6 hr_ ?_; clear hr_; rintro f3 hf3 hfl3 m1 m2 ⟨m3, m4, hmu⟩) | (refine and5 hr_ ?_; clear hr_; rintro f3 hf3 hfl3 m1 ⟨m2, m3, m4, hmu⟩) | (refine and4 hr_ ?_; clear hr_; rintro f3 hf3 hfl3 ⟨m1, m2, m3, m4, hmu⟩) | (refine and3 hr_ ?_; clear hr_; rintro f3 hf3 ⟨hfl3, m1, m2, m3, m4, hmu⟩) | obtain ⟨f3, hf3, hfl3, m1, m2, m3, m4, hmu⟩ := hr_) | (first | (refine and9 h_1 ?_; clear h_1; rintro t3 f3 hf3 hfl3 m1 m2 m3 m4 hmu) | (refine and8 h_1 ?_; clear h_1; rintro t3 f3 hf3 hfl3 m1 m2 m3 ⟨m4, hmu⟩) | (refine and7 h_1 ?_; clear h_1; rintro t3 f3 hf3 hfl3 m1 m2 ⟨m3, m4, hmu⟩) | (refine and6 h_1 ?_; clear h_1; rintro t3 f3 hf3 hfl3 m1 ⟨m2, m3, m4, hmu⟩) | (refine and5 h_1 ?_; clear h_1; rintro t3 f3 hf3 hfl3 ⟨m1, m2, m3, m4, hmu⟩) | (refine and4 h_1 ?_; clear h_1; rintro t3 f3 hf3 ⟨hfl3, m1, m2, m3, m4, hmu⟩) | (refine and3 h_1 ?_; clear h_1; rintro t3 f3 ⟨hf3, hfl3, m1, m2, m3, m4, hmu⟩) | obtain ⟨t3, f3, hf3, hfl3, m1, m2, m3, m4, hmu⟩ := h_1)
          refine k_ ?_
          clear k_ X_
          dsimp only at m1 m2 m3 m4 hmu
          subst hmu
          walk_at "ms"
          have hal2 := hr5.len
          rw [← hal2, List.take_length] at hf3
          exact ⟨t3, f3, hf3, by omega, m1, m2, rfl⟩
      case fin2 =>
        rintro ⟨m, mu⟩ h_1
        refine hide ?_
        intro X_ k_
        first | (refine ex6 h_1 ?_; clear h_1; rintro t2 f2 hf2 hfl2 m1 m2 hmu) | (refine ex5 h_1 ?_; clear h_1; rintro t2 f2 hf2 hfl2 m1 hr_; first | obtain ⟨m2, hmu⟩ := hr_) | (refine ex4 h_1 ?_; clear h_1; rintro t2 f2 hf2 hfl2 hr_; first | (refine and3 hr_ ?_; clear hr_; rintro m1 m2 hmu) | obtain ⟨m1, m2, hmu⟩ := hr_) | (refine ex3 h_1 ?_; clear h_1; rintro t2 f2 hf2 hr_; first | (refine and4 hr_ ?_; clear hr_; rintro hfl2 m1 m2 hmu) | (refine and3 hr_ ?_; clear hr_; rintro hfl2 m1 ⟨m2, hmu⟩) | obtain ⟨hfl2, m1, m2, hmu⟩ := hr_) | (refine ex2 h_1 ?_; clear h_1; rintro t2 f2 hr_; first | (refine and5 hr_ ?_; clear hr_; rintro hf2 hfl2 m1 m2 hmu) | (refine and4 hr_ ?_; clear hr_; rintro hf2 hfl2 m1 ⟨m2, hmu⟩) | (refine and3 hr_ ?_; clear hr_; rintro hf2 hfl2 ⟨m1, m2, hmu⟩) | obtain ⟨hf2, hfl2, m1, m2, hmu⟩ := hr_) | (refine ex1 h_1 ?_; clear h_1; rintro t2 hr_; first | (refine and6 hr_ ?_; clear hr_; rintro f2 hf2 hfl2 m1 m2 hmu) | (refine and5 hr_ ?_; clear hr_; rintro f2 hf2 hfl2 m1 ⟨m2, hmu⟩) | (refine and4 hr_ ?_; clear hr_; rintro f2 hf2 hfl2 ⟨m1, m2, hmu⟩) | (refine and3 hr_ ?_; clear hr_; rintro f2 hf2 ⟨hfl2, m1, m2, hmu⟩) | obtain ⟨f2, hf2, hfl2, m1, m2, hmu⟩ := hr_) | (first | (refine and7 h_1 ?_; clear h_1; rintro t2 f2 hf2 hfl2 m1 m2 hmu) | (refine and6 h_1 ?_; clear h_1; rintro t2 f2 hf2 hfl2 m1 ⟨m2, hmu⟩) | (refine and5 h_1 ?_; clear h_1; rintro t2 f2 hf2 hfl2 ⟨m1, m2, hmu⟩) | (refine and4 h_1 ?_; clear h_1; rintro t2 f2 hf2 ⟨hfl2, m1, m2, hmu⟩) | (refine and3 h_1 ?_; clear h_1; rintro t2 f2 ⟨hf2, hfl2, m1, m2, hmu⟩) | obtain ⟨t2, f2, hf2, hfl2, m1, m2, hmu⟩ := h_1)
        refine k_ ?_
        clear k_ X_
        dsimp only at m1 m2 hmu
        subst hmu
        have hf25 : f2 = orderL.foldl (tagAtts r.attrs) f := hf2
        have hfl25 : f2.length ≤ 5220 := hfl2
        have hrn := hB.name
        walk_at "ms"
        refine w_itemTup (.inl hr1) (by decide) rfl (by rw [sizeLine_eq]; show (4 : Nat) ≤ _; decide) ?_ sub_int
        walk_at "ms"
        refine w_addStr (fun _ => ?_) (by omega)
        walk_at "ms"
        refine w_addStr (fun _ => ?_) (by (try simp only [strLen_add]); omega)
        walk_at "ms"
        refine w_addStr (fun _ => ?_) (by (try simp only [strLen_add]); omega)
        unfold lawTag
        rw [← hf4, ← hf25]
        exact ⟨⟨_, rfl⟩, by simp only [strLen_add]; omega⟩
end
end Mine
end -- F23

section -- F24
open PySem PySem.W PySem.Calls PyProof.Rows PySem.Builtin
namespace Mine
section
variable {prog : Program} {w : World} {O : Heap} {A : Around} {P : Params} {mg mb : Str → Option Value} {g : Kn}

noncomputable def laidStep (x : Str × Str × List (Str × Str)) (p : Row × List (Str × Str)) : Str × Str × List (Str × Str) :=
  (x.1 ++ lawTag p.1 p.2 x.2.2 ++ signsOf false p.1.text, Str.ofString "</" ++ p.1.name ++ ">" ++ x.2.1, p.2)
noncomputable def laidAll (ps : List (Row × List (Str × Str))) : Str × Str × List (Str × Str) := ps.foldl laidStep ("", "", [])
noncomputable def lawLaid (rows : List Row) (scopes : List (List (Str × Str))) (f : Nat) : Str := (laidAll ((rows.drop f).zip (scopes.drop f))).1 ++ (laidAll ((rows.drop f).zip (scopes.drop f))).2.1
theorem Each.dropE {α β : Type} {R : α → β → Prop} : ∀ {xs : List α} {ys : List β} (k : Nat), Each R xs ys → Each R (xs.drop k) (ys.drop k)
  | _, _, 0, h => h
  | [], [], _ + 1, h => h
  | _ :: _, _ :: _, k + 1, h => Each.dropE k h.2
  | [], _ :: _, _ + 1, h => h.elim
  | _ :: _, [], _ + 1, h => h.elim
theorem drop_pick {vs : List Value} {f : Nat} (h : f ≤ vs.length) : (slicePick vs.toArray (some (f : Int)) none none).toList = vs.drop f := by
  rw [slicePick_from vs.toArray f (by rw [List.size_toArray]; exact h)]
theorem laid_ok (G : Gnd (hk.heap_1 P) O mg mb) (hA : Amb A 4) {rs ss : Addr} {vs ds : List Value} {rows : List Row} {scopes : List (List (Str × Str))} {f : Nat} {tf : Tok} (h1 : g rs (.lst vs)) (h2 : Each (RowV g) rows vs) (h3 : g ss (.lst ds)) (h4 : Each (DictV g) scopes ds)
    (hl : rows.length = scopes.length) (hz : rows.length ≤ 10) (hf : f ≤ rows.length) (hB : ∀ (i : Nat) (r : Row) (sc : List (Str × Str)), rows[i]? = some r → scopes[i]? = some sc → TagB r sc) (ht : ∀ r ∈ rows, r.text ∈ wordL) :
    Calls prog w O A (.ref 420) [.ref rs, .ref ss, .int f tf] g [] (fun v _ => SV (lawLaid rows scopes f) v) := by
  refine Calls.fn (n := 3) [("first", .int f tf), ("scopes", .ref ss), ("rows", .ref rs)] G hA (by k_is) (by k_is) (fun _ _ => BindsTo.of_eq rfl) (locs rfl) ?_ (by rfl) (by rfl) (by rfl) (by decide)
  intro L s env c hA G
  have hh : c.A.handled = none := hA.handled
  have hvl := h2.len
  have hdl := h4.len
  refine w_seq (w_assignSwap (names := ["ahead", "closing", "known"]) ?_ (by rfl) (by rfl))
  walk_at "ms"
  intro b1
  dsimp only
  refine w_sliceLst (.inl h1) (kn_mu (.head _)) (.int f tf) .none .none (by decide) (by rw [sizeLine_eq]; omega) (fun d1 => ?_) sub_slice2
  rw [drop_pick (by omega)]
  walk_at "ms"
  intro b2
  dsimp only
  refine w_sliceLst (.inl h3) (kn_mu (.head _)) (.int f tf) .none .none (by decide) (by rw [sizeLine_eq]; omega) (fun d2 => ?_) sub_slice2
  rw [drop_pick (by omega)]
  walk_at "ms"
  have c1 : (Str.ofString "</").length = 2 := by decide +kernel
  have c2 : (Str.ofString ">").length = 1 := by decide +kernel
  have c3 : (Str.ofString "").length = 0 := by decide +kernel
  rename_i ta1 ta2 kd0 tt
  refine w_zip (kn_mu (.tail _ (.tail _ (.head _)))) (kn_mu (.head _)) fun z TI TO i1 i2 oz oT o1 o2 D hz0 hT0 ho1 ho2 => ?_
  refine w_turn _ List.perm_append_comm ?_
  refine w_freeze (mu := zipLed z TO i1 i2 oz oT o1 o2) ?_
  refine w_pad ?_
  refine w_forZip hh D (.inr (.head _)) (.inr (.tail _ (.tail _ (.tail _ (.head _))))) (.inr (.tail _ (.head _))) (by rw [List.length_drop, List.length_drop]; omega) hz0 hT0 ho1 ho2
    (fun j st => ∃ t1 t2 kd k2 x, x = laidAll (((rows.drop f).zip (scopes.drop f)).take j) ∧ x.1.length ≤ 6000 * j ∧ x.2.1.length ≤ 20 * j ∧ st.m "ahead" = some (.str x.1 t1) ∧ st.m "closing" = some (.str x.2.1 t2) ∧ st.m "known" = some (.ref kd) ∧ DctIs x.2.2 k2 ∧
      (g kd (.dct k2) ∨ (kd = kd0 ∧ k2 = [])) ∧ st.mu = []) ?h0 ?turn ?fin
  case h0 => 
    refine ⟨ta1, ta2, kd0, [], ("", "", []), rfl, by rw [c3]; exact Nat.zero_le _, by rw [c3]; exact Nat.zero_le _, ?_, ?_, ?_, trivial, .inr ⟨rfl, rfl⟩, rfl⟩
    · walk_at "ml0"
    · walk_at "ml0"
    · walk_at "ml0"
  case turn =>
    rintro j v1 v2 TT ⟨m, mu⟩ g' hv1 hv2 h_8 hg' h_10
    refine hide ?_
    intro X_ k_
    first | (refine ex12 h_8 ?_; clear h_8; rintro t1 t2 kd k2 x hx hxl1 hxl2 m1 m2 m3 hDk hr_; first | obtain ⟨hkd, hmu⟩ := hr_) | (refine ex11 h_8 ?_; clear h_8; rintro t1 t2 kd k2 x hx hxl1 hxl2 m1 m2 m3 hr_; first | (refine and3 hr_ ?_; clear hr_; rintro hDk hkd hmu) | obtain ⟨hDk, hkd, hmu⟩ := hr_) | (refine ex10 h_8 ?_; clear h_8; rintro t1 t2 kd k2 x hx hxl1 hxl2 m1 m2 hr_; first | (refine and4 hr_ ?_; clear hr_; rintro m3 hDk hkd hmu) | (refine and3 hr_ ?_; clear hr_; rintro m3 hDk ⟨hkd, hmu⟩) | obtain ⟨m3, hDk, hkd, hmu⟩ := hr_) | (refine ex9 h_8 ?_; clear h_8; rintro t1 t2 kd k2 x hx hxl1 hxl2 m1 hr_; first | (refine and5 hr_ ?_; clear hr_; rintro m2 m3 hDk hkd hmu) | (refine and4 hr_ ?_; clear hr_; rintro m2 m3 hDk ⟨hkd, hmu⟩) | (refine and3 hr_ ?_; clear hr_; rintro m2 m3 ⟨hDk, hkd, hmu⟩) | obtain ⟨m2, m3, hDk, hkd, hmu⟩ := hr_) | (refine ex8 h_8 ?_; clear h_8; rintro t1 t2 kd k2 x hx hxl1 hxl2 hr_; first | (refine and6 hr_ ?_; clear hr_; rintro m1 m2 m3 hDk hkd hmu) | (refine and5 hr_ ?_; clear hr_; rintro m1 m2 m3 hDk ⟨hkd, hmu⟩) | (refine and4 hr_ ?_; clear hr_; rintro m1 m2 m3 ⟨hDk, hkd, hmu⟩) | (refine and3 hr_ ?_; clear hr_; rintro m1 m2 ⟨m3, hDk, hkd, hmu⟩) | obtain ⟨m1, m2, m3, hDk, hkd, hmu⟩ := hr_) | (refine ex7 h_8 ?_; clear h_8; rintro t1 t2 kd k2 x hx hxl1 hr_; first | (refine and7 hr_ ?_; clear hr_; rintro hxl2 m1 m2 m3 hDk hkd hmu) | (refine and6 hr_ ?_; clear hr_; rintro hxl2 m1 m2 m3 hDk ⟨hkd, hmu⟩) | (refine and5 hr_ ?_; clear hr_; rintro hxl2 m1 m2 m3 ⟨hDk, hkd, hmu⟩) | (refine and4 hr_ ?_; clear hr_; rintro hxl2 m1 m2 ⟨m3, hDk, hkd, hmu⟩) | (refine and3 hr_ ?_; clear hr_; rintro hxl2 m1 ⟨m2, m3, hDk, hkd, hmu⟩) | obtain ⟨hxl2, m1, m2, m3, hDk, hkd, hmu⟩ := hr_) | (refine ex6 h_8 ?_; clear h_8; rintro t1 t2 kd k2 x hx hr_; first | (refine and8 hr_ ?_; clear hr_; rintro hxl1 hxl2 m1 m2 m3 hDk hkd hmu) | (refine and7 hr_ ?_; clear hr_; rintro hxl1 hxl2 m1 m2 m3 hDk ⟨hkd, hmu⟩) | (refine and6 hr_ ?_; clear hr_; rintro hxl1 hxl2 m1 m2 m3 ⟨hDk, hkd, hmu⟩) | (refine and5 hr_ ?_; clear hr_; rintro hxl1 hxl2 m1 m2 ⟨m3, hDk, hkd, hmu⟩) | (refine and4 hr_ ?_; clear hr_; rintro hxl1 hxl2 m1 ⟨m2, m3, hDk, hkd, hmu⟩) | (refine and3 hr_ ?_; clear hr_; rintro hxl1 hxl2 ⟨m1, m2, m3, hDk, hkd, hmu⟩) | obtain ⟨hxl1, hxl2, m1, m2, m3, hDk, hkd, hmu⟩ := hr_) | (refine ex5 h_8 ?_; clear h_8; rintro t1 t2 kd k2 x hr_; first | (refine and9 hr_ ?_; clear hr_; rintro hx hxl1 hxl2 m1 m2 m3 hDk hkd hmu) | (refine and8 hr_ ?_; clear hr_; rintro hx hxl1 hxl2 m1 m2 m3 hDk ⟨hkd, hmu⟩) | (refine and7 hr_ ?_; clear hr_; rintro hx hxl1 hxl2 m1 m2 m3 ⟨hDk, hkd, hmu⟩) | (refine and6 hr_ ?_; clear hr_; rintro hx hxl1 hxl2 m1 m2 ⟨m3, hDk, hkd, hmu⟩) | (refine and5 hr_ ?_; clear hr_; rintro hx hxl1 hxl2 m1 ⟨m2, m3, hDk, hkd, hmu⟩) | (refine and4 hr_ ?_; clear hr_; rintro hx hxl1 hxl2 ⟨m1, m2, m3, hDk, hkd, hmu⟩) | (refine and3 hr_ ?_; clear hr_; rintro hx hxl1 ⟨hxl2, m1, m2, m3, hDk, hkd, hmu⟩) | obtain ⟨hx, hxl1, hxl2, m1, m2, m3, hDk, hkd, hmu⟩ := hr_) | (refine ex4 h_8 ?_; clear h_8; rintro t1 t2 kd k2 hr_; first | (refine and10 hr_ ?_; clear hr_; rintro x hx hxl1 hxl2 m1 m2 m3 hDk hkd hmu) | (refine and9 hr_ ?_; clear hr_; rintro x hx hxl1 hxl2 m1 m2 m3 hDk ⟨hkd, hmu⟩) | (refine and8 hr_ ?_; clear hr_; rintro x hx hxl1 hxl2 m1 m2 m3 ⟨hDk, hkd, hmu⟩) | (refine and7 hr_ ?_; clear hr_; rintro x hx hxl1 hxl2 m1 m2 ⟨m3, hDk, hkd, hmu⟩) | (refine and6 hr_ ?_; clear hr_; rintro x hx hxl1 hxl2 m1 ⟨m2, m3, hDk, hkd, hmu⟩) | (refine and5 hr_ ?_; clear hr_; rintro x hx hxl1 hxl2 ⟨m1, m2, m3, hDk, hkd, hmu⟩) | (refine and4 hr_ ?_; clear hr_; rintro x hx hxl1 ⟨hxl2, m1, m2, m3, hDk, hkd, hmu⟩) | (refine and3 hr_ ?_; clear hr_; rintro x hx ⟨hxl1, hxl2, m1, m2, m3, hDk, hkd, hmu⟩) | obtain ⟨x, hx, hxl1, hxl2, m1, m2, m3, hDk, hkd, hmu⟩ := hr_) | (refine ex3 h_8 ?_; clear h_8; rintro t1 t2 kd hr_; first | (refine and11 hr_ ?_; clear hr_; rintro k2 x hx hxl1 hxl2 m1 m2 m3 hDk hkd hmu) | (refine and10 hr_ ?_; clear hr_; rintro k2 x hx hxl1 hxl2 m1 m2 m3 hDk ⟨hkd, hmu⟩) | (refine and9 hr_ ?_; clear hr_; rintro k2 x hx hxl1 hxl2 m1 m2 m3 ⟨hDk, hkd, hmu⟩) | (refine and8 hr_ ?_; clear hr_; rintro k2 x hx hxl1 hxl2 m1 m2 ⟨m3, hDk, hkd, hmu⟩) | (refine and7 hr_ ?_; clear hr_; rintro k2 x hx hxl1 hxl2 m1 ⟨m2, m3, hDk, hkd, hmu⟩) | (refine and6 hr_ ?_; clear hr_; rintro k2 x hx hxl1 hxl2 ⟨m1, m2, m3, hDk, hkd, hmu⟩) | (refine and5 hr_ ?_; clear hr_; rintro k2 x hx hxl1 ⟨hxl2, m1, m2, m3, hDk, hkd, hmu⟩) | (refine and4 hr_ ?_; clear hr_; rintro k2 x hx ⟨hxl1, hxl2, m1, m2, m3, hDk, hkd, hmu⟩) | (refine and3 hr_ ?_; clear hr_; rintro k2 x ⟨hx, hxl1, hxl2, m1, m2, m3, hDk, hkd, hmu⟩) | obtain ⟨k2, x, hx, hxl1, hxl2, m1, m2, m3, hDk, hkd, hmu⟩ := hr_) | (refine ex2 h_8 ?_; clear h_8; rintro t1 t2 hr_; first | (refine and12 hr_ ?_; clear hr_; rintro kd k2 x hx hxl1 hxl2 m1 m2 m3 hDk hkd hmu) | (refine and11 hr_ ?_; clear hr_; rintro kd k2 x hx hxl1 hxl2 m1 m2 m3 hDk ⟨hkd, hmu⟩) | (refine and10 hr_ ?_; clear hr_; rintro kd k2 x hx hxl1 hxl2 m1 m2 m3 ⟨hDk, hkd, hmu⟩) | (refine and9 hr_ ?_; clear hr_; rintro kd k2 x hx hxl1 hxl2 m1 m2 ⟨m3, hDk, hkd, hmu⟩) | (refine and8 hr_ ?_; clear hr_; rintro kd k2 x hx hxl1 hxl2 m1 ⟨m2, m3, hDk, hkd, hmu⟩) | (refine and7 hr_ ?_; clear hr_; rintro kd k2 x hx hxl1 hxl2 ⟨m1, m2, m3, hDk, hkd, hmu⟩) | (refine and6 hr_ ?_; clear hr_; rintro kd k2 x hx hxl1 ⟨hxl2, m1, m2, m3, hDk, hkd, hmu⟩) | (refine and5 hr_ ?_; clear hr_; rintro kd k2 x hx ⟨hxl1, hxl2, m1, m2, m3, hDk, hkd, hmu⟩) | (refine and4 hr_ ?_; clear hr_; rintro kd k2 x ⟨hx, hxl1, hxl2, m1, m2, m3, hDk, hkd, hmu⟩) | (refine and3 hr_ ?_; clear hr_; rintro kd k2 ⟨x, hx, hxl1, hxl2, m1, m2, m3, hDk, hkd, hmu⟩) | obtain ⟨kd, k2, x, hx, hxl1, hxl2, m1, m2, m3, hDk, hkd, hmu⟩ := hr_) | (refine ex1 h_8 ?_; clear h_8; rintro t1 hr_; first | (refine and13 hr_ ?_; clear hr_; rintro t2 kd k2 x hx hxl1 hxl2 m1 m2 m3 hDk hkd hmu) | (refine and12 hr_ ?_; clear hr_; rintro t2 kd k2 x hx hxl1 hxl2 m1 m2 m3 hDk ⟨hkd, hmu⟩) | (refine and11 hr_ ?_; clear hr_; rintro t2 kd k2 x hx hxl1 hxl2 m1 m2 m3 ⟨hDk, hkd, hmu⟩) | (refine and10 hr_ ?_; clear hr_; rintro t2 kd k2 x hx hxl1 hxl2 m1 m2 ⟨m3, hDk, hkd, hmu⟩) | (refine and9 hr_ ?_; clear hr_; rintro t2 kd k2 x hx hxl1 hxl2 m1 ⟨m2, m3, hDk, hkd, hmu⟩) | (refine and8 hr_ ?_; clear hr_; rintro t2 kd k2 x hx hxl1 hxl2 ⟨m1, m2, m3, hDk, hkd, hmu⟩) | (refine and7 hr_ ?_; clear hr_; rintro t2 kd k2 x hx hxl1 ⟨hxl2, m1, m2, m3, hDk, hkd, hmu⟩) | (refine and6 hr_ ?_; clear hr_; rintro t2 kd k2 x hx ⟨hxl1, hxl2, m1, m2, m3, hDk, hkd, hmu⟩) | (refine and5 hr_ ?_; clear hr_; rintro t2 kd k2 x ⟨hx, hxl1, hxl2, m1, m2, m3, hDk, hkd, hmu⟩) | (refine and4 hr_ ?_; clear hr_; rintro t2 kd k2 ⟨x, hx, hxl1, hxl2, m1, m2, m3, hDk, hkd, hmu⟩) | (refine and3 hr_ ?_; clear hr_; rintro t2 kd ⟨k2, x, hx, hxl1, hxl2, m1, m2, m3, hDk, hkd, hmu⟩) | obtain ⟨t2, kd, k2, x, hx, hxl1, hxl2, m1, m2, m3, hDk, hkd, hmu⟩ := hr_) | (first | (refine and14 h_8 ?_; clear h_8; rintro t1 t2 kd k2 x hx hxl1 hxl2 m1 m2 m3 hDk hkd hmu) | (refine and13 h_8 ?_; clear h_8; rintro t1 t2 kd k2 x hx hxl1 hxl2 m1 m2 m3 hDk ⟨hkd, hmu⟩) | (refine and12 h_8 ?_; clear h_8; rintro t1 t2 kd k2 x hx hxl1 hxl2 m1 m2 m3 ⟨hDk, hkd, hmu⟩) | (refine and11 h_8 ?_; clear h_8; rintro t1 t2 kd k2 x hx hxl1 hxl2 m1 m2 ⟨m3, hDk, hkd, hmu⟩) | (refine and10 h_8 ?_; clear h_8; rintro t1 t2 kd k2 x hx hxl1 hxl2 m1 ⟨m2, m3, hDk, hkd, hmu⟩) | (refine and9 h_8 ?_; clear h_8; rintro t1 t2 kd k2 x hx hxl1 hxl2 ⟨m1, m2, m3, hDk, hkd, hmu⟩) | (refine and8 h_8 ?_; clear h_8; rintro t1 t2 kd k2 x hx hxl1 ⟨hxl2, m1, m2, m3, hDk, hkd, hmu⟩) | (refine and7 h_8 ?_; clear h_8; rintro t1 t2 kd k2 x hx ⟨hxl1, hxl2, m1, m2, m3, hDk, hkd, hmu⟩) | (refine and6 h_8 ?_; clear h_8; rintro t1 t2 kd k2 x ⟨hx, hxl1, hxl2, m1, m2, m3, hDk, hkd, hmu⟩) | (refine and5 h_8 ?_; clear h_8; rintro t1 t2 kd k2 ⟨x, hx, hxl1, hxl2, m1, m2, m3, hDk, hkd, hmu⟩) | (refine and4 h_8 ?_; clear h_8; rintro t1 t2 kd ⟨k2, x, hx, hxl1, hxl2, m1, m2, m3, hDk, hkd, hmu⟩) | (refine and3 h_8 ?_; clear h_8; rintro t1 t2 ⟨kd, k2, x, hx, hxl1, hxl2, m1, m2, m3, hDk, hkd, hmu⟩) | obtain ⟨t1, t2, kd, k2, x, hx, hxl1, hxl2, m1, m2, m3, hDk, hkd, hmu⟩ := h_8)
    first | (refine ex4 h_10 ?_; clear h_10; rintro ot no hT1 hT2 hT3) | (refine ex3 h_10 ?_; clear h_10; rintro ot no hT1 hr_; first | obtain ⟨hT2, hT3⟩ := hr_) | (refine ex2 h_10 ?_; clear h_10; rintro ot no hr_; first | (refine and3 hr_ ?_; clear hr_; rintro hT1 hT2 hT3) | obtain ⟨hT1, hT2, hT3⟩ := hr_) | (refine ex1 h_10 ?_; clear h_10; rintro ot hr_; first | (refine and4 hr_ ?_; clear hr_; rintro no hT1 hT2 hT3) | (refine and3 hr_ ?_; clear hr_; rintro no hT1 ⟨hT2, hT3⟩) | obtain ⟨no, hT1, hT2, hT3⟩ := hr_) | (first | (refine and5 h_10 ?_; clear h_10; rintro ot no hT1 hT2 hT3) | (refine and4 h_10 ?_; clear h_10; rintro ot no hT1 ⟨hT2, hT3⟩) | (refine and3 h_10 ?_; clear h_10; rintro ot no ⟨hT1, hT2, hT3⟩) | obtain ⟨ot, no, hT1, hT2, hT3⟩ := h_10)
    refine k_ ?_
    clear k_ X_
    dsimp only at hmu m1 m2 m3
    subst hmu
    obtain ⟨r, hr, hrv⟩ := (h2.dropE f).get' hv1
    refine hide ?_
    intro X_ k_
    first | (refine ex4 ((h4.dropE f).get' hv2) ?_; rintro sc hsc sd k1 hr_; first | (refine and3 hr_ ?_; clear hr_; rintro rfl hsd hD1) | obtain ⟨rfl, hsd, hD1⟩ := hr_) | (refine ex3 ((h4.dropE f).get' hv2) ?_; rintro sc hsc sd hr_; first | (refine and4 hr_ ?_; clear hr_; rintro k1 rfl hsd hD1) | (refine and3 hr_ ?_; clear hr_; rintro k1 rfl ⟨hsd, hD1⟩) | obtain ⟨k1, rfl, hsd, hD1⟩ := hr_) | (refine ex2 ((h4.dropE f).get' hv2) ?_; rintro sc hsc hr_; first | (refine and5 hr_ ?_; clear hr_; rintro sd k1 rfl hsd hD1) | (refine and4 hr_ ?_; clear hr_; rintro sd k1 rfl ⟨hsd, hD1⟩) | (refine and3 hr_ ?_; clear hr_; rintro sd k1 ⟨rfl, hsd, hD1⟩) | obtain ⟨sd, k1, rfl, hsd, hD1⟩ := hr_) | (refine ex1 ((h4.dropE f).get' hv2) ?_; rintro sc hr_; first | (refine and6 hr_ ?_; clear hr_; rintro hsc sd k1 rfl hsd hD1) | (refine and5 hr_ ?_; clear hr_; rintro hsc sd k1 rfl ⟨hsd, hD1⟩) | (refine and4 hr_ ?_; clear hr_; rintro hsc sd k1 ⟨rfl, hsd, hD1⟩) | (refine and3 hr_ ?_; clear hr_; rintro hsc sd ⟨k1, rfl, hsd, hD1⟩) | obtain ⟨hsc, sd, k1, rfl, hsd, hD1⟩ := hr_) | (first | (refine and7 ((h4.dropE f).get' hv2) ?_; rintro sc hsc sd k1 rfl hsd hD1) | (refine and6 ((h4.dropE f).get' hv2) ?_; rintro sc hsc sd k1 rfl ⟨hsd, hD1⟩) | (refine and5 ((h4.dropE f).get' hv2) ?_; rintro sc hsc sd k1 ⟨rfl, hsd, hD1⟩) | (refine and4 ((h4.dropE f).get' hv2) ?_; rintro sc hsc sd ⟨k1, rfl, hsd, hD1⟩) | (refine and3 ((h4.dropE f).get' hv2) ?_; rintro sc hsc ⟨sd, k1, rfl, hsd, hD1⟩) | obtain ⟨sc, hsc, sd, k1, rfl, hsd, hD1⟩ := ((h4.dropE f).get' hv2))
    refine k_ ?_
    clear k_ X_
    refine w_asTupO (.inl hT1) hT2 hT3 ?_ (by rfl) (by rfl) hh
    have hrm : rows[f + j]? = some r := by rw [← List.getElem?_drop]; exact hr
    have hsm : scopes[f + j]? = some sc := by rw [← List.getElem?_drop]; exact hsc
    have hjl : j < 10 := by have := (List.getElem?_eq_some_iff.mp hrm).1; omega
    have hTB := hB _ _ _ hrm hsm
    obtain ⟨w1, w2, w3⟩ := wordFacts (ht r (List.mem_of_getElem? hrm)) false
    have hkd' : g' kd (.dct k2) := by
      rcases hkd with h | ⟨rfl, rfl⟩
      · exact hg' _ _ (.inl h)
      · exact hg' _ _ (.inr (.tail _ (.tail _ (.tail _ (.tail _ (.tail _ (.tail _ (.head _))))))))
    have hsd' := hg' _ _ (.inl hsd)
    have hrv' : RowV g' r v1 := RowV.mono (fun a sh h => hg' a sh (.inl h)) r v1 hrv
    have hst : laidAll (((rows.drop f).zip (scopes.drop f)).take (j + 1)) = laidStep x (r, sc) := by
      have e : ((rows.drop f).zip (scopes.drop f))[j]? = some (r, sc) := by rw [List.getElem?_zip_eq_some]; exact ⟨hr, hsc⟩
      rw [List.take_add_one, e, hx]
      unfold laidAll
      rw [List.foldl_append]; rfl
    rw [hst]
    clear hx hst
    have hrn := hTB.name
    have hrv'' := hrv'
    refine hide ?_
    intro X_ k_
    first | (refine ex7 hrv'' ?_; clear hrv''; rintro ra tn bu us ba as tx hr_; first | (refine and3 hr_ ?_; clear hr_; rintro rfl hr1 _) | obtain ⟨rfl, hr1, _⟩ := hr_) | (refine ex6 hrv'' ?_; clear hrv''; rintro ra tn bu us ba as hr_; first | (refine and4 hr_ ?_; clear hr_; rintro tx rfl hr1 _) | (refine and3 hr_ ?_; clear hr_; rintro tx rfl ⟨hr1, _⟩) | obtain ⟨tx, rfl, hr1, _⟩ := hr_) | (refine ex5 hrv'' ?_; clear hrv''; rintro ra tn bu us ba hr_; first | (refine and5 hr_ ?_; clear hr_; rintro as tx rfl hr1 _) | (refine and4 hr_ ?_; clear hr_; rintro as tx rfl ⟨hr1, _⟩) | (refine and3 hr_ ?_; clear hr_; rintro as tx ⟨rfl, hr1, _⟩) | obtain ⟨as, tx, rfl, hr1, _⟩ := hr_) | (refine ex4 hrv'' ?_; clear hrv''; rintro ra tn bu us hr_; first | (refine and6 hr_ ?_; clear hr_; rintro ba as tx rfl hr1 _) | (refine and5 hr_ ?_; clear hr_; rintro ba as tx rfl ⟨hr1, _⟩) | (refine and4 hr_ ?_; clear hr_; rintro ba as tx ⟨rfl, hr1, _⟩) | (refine and3 hr_ ?_; clear hr_; rintro ba as ⟨tx, rfl, hr1, _⟩) | obtain ⟨ba, as, tx, rfl, hr1, _⟩ := hr_) | (refine ex3 hrv'' ?_; clear hrv''; rintro ra tn bu hr_; first | (refine and7 hr_ ?_; clear hr_; rintro us ba as tx rfl hr1 _) | (refine and6 hr_ ?_; clear hr_; rintro us ba as tx rfl ⟨hr1, _⟩) | (refine and5 hr_ ?_; clear hr_; rintro us ba as tx ⟨rfl, hr1, _⟩) | (refine and4 hr_ ?_; clear hr_; rintro us ba as ⟨tx, rfl, hr1, _⟩) | (refine and3 hr_ ?_; clear hr_; rintro us ba ⟨as, tx, rfl, hr1, _⟩) | obtain ⟨us, ba, as, tx, rfl, hr1, _⟩ := hr_) | (refine ex2 hrv'' ?_; clear hrv''; rintro ra tn hr_; first | (refine and8 hr_ ?_; clear hr_; rintro bu us ba as tx rfl hr1 _) | (refine and7 hr_ ?_; clear hr_; rintro bu us ba as tx rfl ⟨hr1, _⟩) | (refine and6 hr_ ?_; clear hr_; rintro bu us ba as tx ⟨rfl, hr1, _⟩) | (refine and5 hr_ ?_; clear hr_; rintro bu us ba as ⟨tx, rfl, hr1, _⟩) | (refine and4 hr_ ?_; clear hr_; rintro bu us ba ⟨as, tx, rfl, hr1, _⟩) | (refine and3 hr_ ?_; clear hr_; rintro bu us ⟨ba, as, tx, rfl, hr1, _⟩) | obtain ⟨bu, us, ba, as, tx, rfl, hr1, _⟩ := hr_) | (refine ex1 hrv'' ?_; clear hrv''; rintro ra hr_; first | (refine and9 hr_ ?_; clear hr_; rintro tn bu us ba as tx rfl hr1 _) | (refine and8 hr_ ?_; clear hr_; rintro tn bu us ba as tx rfl ⟨hr1, _⟩) | (refine and7 hr_ ?_; clear hr_; rintro tn bu us ba as tx ⟨rfl, hr1, _⟩) | (refine and6 hr_ ?_; clear hr_; rintro tn bu us ba as ⟨tx, rfl, hr1, _⟩) | (refine and5 hr_ ?_; clear hr_; rintro tn bu us ba ⟨as, tx, rfl, hr1, _⟩) | (refine and4 hr_ ?_; clear hr_; rintro tn bu us ⟨ba, as, tx, rfl, hr1, _⟩) | (refine and3 hr_ ?_; clear hr_; rintro tn bu ⟨us, ba, as, tx, rfl, hr1, _⟩) | obtain ⟨tn, bu, us, ba, as, tx, rfl, hr1, _⟩ := hr_) | (first | (refine and10 hrv'' ?_; clear hrv''; rintro ra tn bu us ba as tx rfl hr1 _) | (refine and9 hrv'' ?_; clear hrv''; rintro ra tn bu us ba as tx rfl ⟨hr1, _⟩) | (refine and8 hrv'' ?_; clear hrv''; rintro ra tn bu us ba as tx ⟨rfl, hr1, _⟩) | (refine and7 hrv'' ?_; clear hrv''; rintro ra tn bu us ba as ⟨tx, rfl, hr1, _⟩) | (refine and6 hrv'' ?_; clear hrv''; rintro ra tn bu us ba ⟨as, tx, rfl, hr1, _⟩) | (refine and5 hrv'' ?_; clear hrv''; rintro ra tn bu us ⟨ba, as, tx, rfl, hr1, _⟩) | (refine and4 hrv'' ?_; clear hrv''; rintro ra tn bu ⟨us, ba, as, tx, rfl, hr1, _⟩) | (refine and3 hrv'' ?_; clear hrv''; rintro ra tn ⟨bu, us, ba, as, tx, rfl, hr1, _⟩) | obtain ⟨ra, tn, bu, us, ba, as, tx, rfl, hr1, _⟩ := hrv'')
    refine k_ ?_
    clear k_ X_
    walk_at "ms"
    refine w_callPure _ (fun g'' h1 h2 => tag_ok G hA.le (RowV.mono h1 r _ hrv') (h1 _ _ hsd') (h1 _ _ hkd') hD1 hDk hTB) ?_
    rintro _ ⟨⟨tt1, rfl⟩, htl⟩
    walk_at "ms"
    refine w_addStr (fun _ => ?_) (by omega)
    walk_at "ms"
    refine w_itemTup (.inl hr1) (by decide) rfl (by rw [sizeLine_eq]; show (4 : Nat) ≤ _; decide) ?_ sub_int
    walk_at "ms"
    refine w_callPure _ (fun g' h1 h2 => signs_ok G hA.le w1 w2) ?_
    rintro _ ⟨ts, rfl⟩
    walk_at "ms"
    refine w_addStr (fun tA => ?_) (by simp only [strLen_add]; omega)
    walk_at "ms"
    refine w_itemTup (.inl hr1) (by decide) rfl (by rw [sizeLine_eq]; show (4 : Nat) ≤ _; decide) ?_ sub_int
    walk_at "ms"
    refine w_addStr (fun _ => ?_) (by omega)
    walk_at "ms"
    refine w_addStr (fun _ => ?_) (by simp only [strLen_add]; omega)
    walk_at "ms"
    refine w_addStr (fun tC => ?_) (by simp only [strLen_add]; omega)
    walk_at "ms"
    refine ⟨tA, tC, sd, k1, laidStep x (r, sc), rfl, ?_, ?_, ?_, ?_, ?_, hD1, .inl hsd, rfl⟩
    · unfold laidStep; simp only [strLen_add]; omega
    · unfold laidStep; simp only [strLen_add]; omega
    · unfold laidStep; walk_at "ml0"
    · unfold laidStep; walk_at "ml0"
    · walk_at "ml0"
  case fin =>
    rintro ⟨m, mu⟩ h_1
    refine hide ?_
    intro X_ k_
    first | (refine ex12 h_1 ?_; clear h_1; rintro t1 t2 kd k2 x hx hxl1 hxl2 m1 m2 m3 hDk hr_; first | obtain ⟨hkd, hmu⟩ := hr_) | (refine ex11 h_1 ?_; clear h_1; rintro t1 t2 kd k2 x hx hxl1 hxl2 m1 m2 m3 hr_; first | (refine and3 hr_ ?_; clear hr_; rintro hDk hkd hmu) | obtain ⟨hDk, hkd, hmu⟩ := hr_) | (refine ex10 h_1 ?_; clear h_1; rintro t1 t2 kd k2 x hx hxl1 hxl2 m1 m2 hr_; first | (refine and4 hr_ ?_; clear hr_; rintro m3 hDk hkd hmu) | (refine and3 hr_ ?_; clear hr_; rintro m3 hDk ⟨hkd, hmu⟩) | obtain ⟨m3, hDk, hkd, hmu⟩ := hr_) | (refine ex9 h_1 ?_; clear h_1; rintro t1 t2 kd k2 x hx hxl1 hxl2 m1 hr_; first | (refine and5 hr_ ?_; clear hr_; rintro m2 m3 hDk hkd hmu) | (refine and4 hr_ ?_; clear hr_; rintro m2 m3 hDk ⟨hkd, hmu⟩) | (refine and3 hr_ ?_; clear hr_; rintro m2 m3 ⟨hDk, hkd, hmu⟩) | obtain ⟨m2, m3, hDk, hkd, hmu⟩ := hr_) | (refine ex8 h_1 ?_; clear h_1; rintro t1 t2 kd k2 x hx hxl1 hxl2 hr_; first | (refine and6 hr_ ?_; clear hr_; rintro m1 m2 m3 hDk hkd hmu) | (refine and5 hr_ ?_; clear hr_; rintro m1 m2 m3 hDk ⟨hkd, hmu⟩) | (refine and4 hr_ ?_; clear hr_; rintro m1 m2 m3 ⟨hDk, hkd, hmu⟩) | (refine and3 hr_ ?_; clear hr_; rintro m1 m2 ⟨m3, hDk, hkd, hmu⟩) | obtain ⟨m1, m2, m3, hDk, hkd, hmu⟩ := hr_) | (refine ex7 h_1 ?_; clear h_1; rintro t1 t2 kd k2 x hx hxl1 hr_; first | (refine and7 hr_ ?_; clear hr_; rintro hxl2 m1 m2 m3 hDk hkd hmu) | (refine and6 hr_ ?_; clear hr_; rintro hxl2 m1 m2 m3 hDk ⟨hkd, hmu⟩) | (refine and5 hr_ ?_; clear hr_; rintro hxl2 m1 m2 m3 ⟨hDk, hkd, hmu⟩) | (refine and4 hr_ ?_; clear hr_; rintro hxl2 m1 m2 ⟨m3, hDk, hkd, hmu⟩) | (refine and3 hr_ ?_; clear hr_; rintro hxl2 m1 ⟨m2, m3, hDk, hkd, hmu⟩) | obtain ⟨hxl2, m1, m2, m3, hDk, hkd, hmu⟩ := hr_) | (refine ex6 h_1 ?_; clear h_1; rintro t1 t2 kd k2 x hx hr_; first | (refine and8 hr_ ?_; clear hr_; rintro hxl1 hxl2 m1 m2 m3 hDk hkd hmu) | (refine and7 hr_ ?_; clear hr_; rintro hxl1 hxl2 m1 m2 m3 hDk ⟨hkd, hmu⟩) | (refine and6 hr_ ?_; clear hr_; rintro hxl1 hxl2 m1 m2 m3 ⟨hDk, hkd, hmu⟩) | (refine and5 hr_ ?_; clear hr_; rintro hxl1 hxl2 m1 m2 ⟨m3, hDk, hkd, hmu⟩) | (refine and4 hr_ ?_; clear hr_; rintro hxl1 hxl2 m1 ⟨m2, m3, hDk, hkd, hmu⟩) | (refine and3 hr_ ?_; clear hr_; rintro hxl1 hxl2 ⟨m1, m2, m3, hDk, hkd, hmu⟩) | obtain ⟨hxl1, hxl2, m1, m2, m3, hDk, hkd, hmu⟩ := hr_) | (refine ex5 h_1 ?_; clear h_1; rintro t1 t2 kd k2 x hr_; first | (refine and9 hr_ ?_; clear hr_; rintro hx hxl1 hxl2 m1 m2 m3 hDk hkd hmu) | (refine and8 hr_ ?_; clear hr_; rintro hx hxl1 hxl2 m1 m2 m3 hDk ⟨hkd, hmu⟩) | (refine and7 hr_ ?_; clear hr_; rintro hx hxl1 hxl2 m1 m2 m3 ⟨hDk, hkd, hmu⟩) | (refine and6 hr_ ?_; clear hr_; rintro hx hxl1 hxl2 m1 m2 ⟨m3, hDk, hkd, hmu⟩) | (refine and5 hr_ ?_; clear hr_; rintro hx hxl1 hxl2 m1 ⟨m2, m3, hDk, hkd, hmu⟩) | (refine and4 hr_ ?_; clear hr_; rintro hx hxl1 hxl2 ⟨m1, m2, m3, hDk, hkd, hmu⟩) | (refine and3 hr_ ?_; clear hr_; rintro hx hxl1 ⟨hxl2, m1, m2, m3, hDk, hkd, hmu⟩) | obtain ⟨hx, hxl1, hxl2, m1, m2, m3, hDk, hkd, hmu⟩ := hr_) | (refine ex4 h_1 ?_; clear h_1; rintro t1 t2 kd k2 hr_; first | (refine and10 hr_ ?_; clear hr_; rintro x hx hxl1 hxl2 m1 m2 m3 hDk hkd hmu) | (refine and9 hr_ ?_; clear hr_; rintro x hx hxl1 hxl2 m1 m2 m3 hDk ⟨hkd, hmu⟩) | (refine and8 hr_ ?_; clear hr_; rintro x hx hxl1 hxl2 m1 m2 m3 ⟨hDk, hkd, hmu⟩) | (refine and7 hr_ ?_; clear hr_; rintro x hx hxl1 hxl2 m1 m2 ⟨m3, hDk, hkd, hmu⟩) | (refine and6 hr_ ?_; clear hr_; rintro x hx hxl1 hxl2 m1 ⟨m2, m3, hDk, hkd, hmu⟩) | (refine and5 hr_ ?_; clear hr_; rintro x hx hxl1 hxl2 ⟨m1, m2, m3, hDk, hkd, hmu⟩) | (refine and4 hr_ ?_; clear hr_; rintro x hx hxl1 ⟨hxl2, m1, m2, m3, hDk, hkd, hmu⟩) | (refine and3 hr_ ?_; clear hr_; rintro x hx ⟨hxl1, hxl2, m1, m2, m3, hDk, hkd, hmu⟩) | obtain ⟨x, hx, hxl1, hxl2, m1, m2, m3, hDk, hkd, hmu⟩ := hr_) | (refine ex3 h_1 ?_; clear h_1; rintro t1 t2 kd hr_; first | (refine and11 hr_ ?_; clear hr_; rintro k2 x hx hxl1 hxl2 m1 m2 m3 hDk hkd hmu) | (refine and10 hr_ ?_; clear hr_; rintro k2 x hx hxl1 hxl2 m1 m2 m3 hDk ⟨hkd, hmu⟩) | (refine and9 hr_ ?_; clear hr_; rintro k2 x hx hxl1 hxl2 m1 m2 m3 ⟨hDk, hkd, hmu⟩) | (refine and8 hr_ ?_; clear hr_; rintro k2 x hx hxl1 hxl2 m1 m2 ⟨m3, hDk, hkd, hmu⟩) | (refine and7 hr_ ?_; clear hr_; rintro k2 x hx hxl1 hxl2 m1 ⟨m2, m3, hDk, hkd, hmu⟩) | (refine and6 hr_ ?_; clear hr_; rintro k2 x hx hxl1 hxl2 ⟨m1, m2, m3, hDk, hkd, hmu⟩) | (refine and5 hr_ ?_; clear hr_; rintro k2 x hx hxl1 ⟨hxl2, m1, m2, m3, hDk, hkd, hmu⟩) | (refine and4 hr_ ?_; clear hr_; rintro k2 x hx ⟨hxl1, hxl2, m1, m2, m3, hDk, hkd, hmu⟩) | (refine and3 hr_ ?_; clear hr_; rintro k2 x ⟨hx, hxl1, hxl2, m1, m2, m3, hDk, hkd, hmu⟩) | obtain ⟨k2, x, hx, hxl1, hxl2, m1, m2, m3, hDk, hkd, hmu⟩ := hr_) | (refine ex2 h_1 ?_; clear h_1; rintro t1 t2 hr_; first | (refine and12 hr_ ?_; clear hr_; rintro kd k2 x hx hxl1 hxl2 m1 m2 m3 hDk hkd hmu) | (refine and11 hr_ ?_; clear hr_; rintro kd k2 x hx hxl1 hxl2 m1 m2 m3 hDk ⟨hkd, hmu⟩) | (refine and10 hr_ ?_; clear hr_; rintro kd k2 x hx hxl1 hxl2 m1 m2 m3 ⟨hDk, hkd, hmu⟩) | (refine and9 hr_ ?_; clear hr_; rintro kd k2 x hx hxl1 hxl2 m1 m2 ⟨m3, hDk, hkd, hmu⟩) | (refine and8 hr_ ?_; clear hr_; rintro kd k2 x hx hxl1 hxl2 m1 ⟨m2, m3, hDk, hkd, hmu⟩) | (refine and7 hr_ ?_; clear hr_; rintro kd k2 x hx hxl1 hxl2 ⟨m1, m2, m3, hDk, hkd, hmu⟩) | (refine and6 hr_ ?_; clear hr_; rintro kd k2 x hx hxl1 ⟨hxl2, m1, m2, m3, hDk, hkd, hmu⟩) | (refine and5 hr_ ?_; clear hr_; rintro kd k2 x hx ⟨hxl1, hxl2, m1, m2, m3, hDk, hkd, hmu⟩) | (refine and4 hr_ ?_; clear hr_; rintro kd k2 x ⟨hx, hxl1, hxl2, m1, m2, m3, hDk, hkd, hmu⟩) | (refine and3 hr_ ?_; clear hr_; rintro kd k2 ⟨x, hx, hxl1, hxl2, m1, m2, m3, hDk, hkd, hmu⟩) | obtain ⟨kd, k2, x, hx, hxl1, hxl2, m1, m2, m3, hDk, hkd, hmu⟩ := hr_) | (refine ex1 h_1 ?_; clear h_1; rintro t1 hr_; first | (refine and13 hr_ ?_; clear hr_; rintro t2 kd k2 x hx hxl1 hxl2 m1 m2 m3 hDk hkd hmu) | (refine and12 hr_ ?_; clear hr_; rintro t2 kd k2 x hx hxl1 hxl2 m1 m2 m3 hDk ⟨hkd, hmu⟩) | (refine and11 hr_ ?_; clear hr_; rintro t2 kd k2 x hx hxl1 hxl2 m1 m2 m3 ⟨hDk, hkd, hmu⟩) | (refine and10 hr_ ?_; clear hr_; rintro t2 kd k2 x hx hxl1 hxl2 m1 m2 ⟨m3, hDk, hkd, hmu⟩) | (refine and9 hr_ ?_; clear hr_; rintro t2 kd k2 x hx hxl1 hxl2 m1 ⟨m2, m3, hDk, hkd, hmu⟩) | (refine and8 hr_ ?_; clear hr_; rintro t2 kd k2 x hx hxl1 hxl2 ⟨m1, m2, m3, hDk, hkd, hmu⟩) | (refine and7 hr_ ?_; clear hr_; rintro t2 kd k2 x hx hxl1 ⟨hxl2, m1, m2, m3, hDk, hkd, hmu⟩) | (refine and6 hr_ ?_; clear hr_; rintro t2 kd k2 x hx ⟨hxl1, hxl2, m1, m2, m3, hDk, hkd, hmu⟩) | (refine and5 hr_ ?_; clear hr_; rintro t2 kd k2 x ⟨hx, hxl1, hxl2, m1, m2, m3, hDk, hkd, hmu⟩) | (refine and4 hr_ ?_; clear hr_; rintro t2 kd k2 ⟨x, hx, hxl1, hxl2, m1, m2, m3, hDk, hkd, hmu⟩) | (refine and3 hr_ ?_; clear hr_; rintro t2 kd ⟨k2, x, hx, hxl1, hxl2, m1, m2, m3, hDk, hkd, hmu⟩) | obtain ⟨t2, kd, k2, x, hx, hxl1, hxl2, m1, m2, m3, hDk, hkd, hmu⟩ := hr_) | (first | (refine and14 h_1 ?_; clear h_1; rintro t1 t2 kd k2 x hx hxl1 hxl2 m1 m2 m3 hDk hkd hmu) | (refine and13 h_1 ?_; clear h_1; rintro t1 t2 kd k2 x hx hxl1 hxl2 m1 m2 m3 hDk ⟨hkd, hmu⟩) | (refine and12 h_1 ?_; clear h_1; rintro t1 t2 kd k2 x hx hxl1 hxl2 m1 m2 m3 ⟨hDk, hkd, hmu⟩) | (refine and11 h_1 ?_; clear h_1; rintro t1 t2 kd k2 x hx hxl1 hxl2 m1 m2 ⟨m3, hDk, hkd, hmu⟩) | (refine and10 h_1 ?_; clear h_1; rintro t1 t2 kd k2 x hx hxl1 hxl2 m1 ⟨m2, m3, hDk, hkd, hmu⟩) | (refine and9 h_1 ?_; clear h_1; rintro t1 t2 kd k2 x hx hxl1 hxl2 ⟨m1, m2, m3, hDk, hkd, hmu⟩) | (refine and8 h_1 ?_; clear h_1; rintro t1 t2 kd k2 x hx hxl1 ⟨hxl2, m1, m2, m3, hDk, hkd, hmu⟩) | (refine and7 h_1 ?_; clear h_1; rintro t1 t2 kd k2 x hx ⟨hxl1, hxl2, m1, m2, m3, hDk, hkd, hmu⟩) | (refine and6 h_1 ?_; clear h_1; rintro t1 t2 kd k2 x ⟨hx, hxl1, hxl2, m1, m2, m3, hDk, hkd, hmu⟩) | (refine and5 h_1 ?_; clear h_1; rintro t1 t2 kd k2 ⟨x, hx, hxl1, hxl2, m1, m2, m3, hDk, hkd, hmu⟩) | (refine and4 h_1 ?_; clear h_1; rintro t1 t2 kd ⟨k2, x, hx, hxl1, hxl2, m1, m2, m3, hDk, hkd, hmu⟩) | (refine and3 h_1 ?_; clear h_1; rintro t1 t2 ⟨kd, k2, x, hx, hxl1, hxl2, m1, m2, m3, hDk, hkd, hmu⟩) | obtain ⟨t1, t2, kd, k2, x, hx, hxl1, hxl2, m1, m2, m3, hDk, hkd, hmu⟩ := h_1)
    refine k_ ?_
    clear k_ X_
    dsimp only at hmu m1 m2 m3
    subst hmu
    have hj : ((rows.drop f).zip (scopes.drop f)).take (vs.drop f).length = (rows.drop f).zip (scopes.drop f) := List.take_of_length_le (by rw [List.length_zip, List.length_drop, List.length_drop, List.length_drop]; omega)
    rw [hj] at hx
    have hvd : (vs.drop f).length ≤ 10 := by rw [List.length_drop]; omega
    walk_at "ms"
    refine w_addStr (fun _ => ?_) (by omega)
    unfold lawLaid
    rw [← hx]
    exact ⟨_, rfl⟩
end
end Mine
end -- F24

section -- P1
open PySem PySem.W PySem.Calls PyProof.Rows PySem.Builtin PySem.Spec
namespace Mine
section
/-! orders -/
noncomputable def leS (a b : Str) : Prop := a.cps.toList ≤ b.cps.toList
theorem leS_of {a b : Str} (h : ltCps b.cps.toList a.cps.toList = false) : leS a b := by
  rw [ltCps_eq] at h
  exact List.not_lt.mp (by simpa using h)
theorem leS_trans {a b d : Str} (h1 : leS a b) (h2 : leS b d) : leS a d := List.le_trans h1 h2
theorem leS_antisymm {a b : Str} (h1 : leS a b) (h2 : leS b a) : a = b := Str.ext' (Array.toList_inj.mp (List.le_antisymm h1 h2))
theorem rising_pw : ∀ {l : List Str} {p : Str}, risingS p l = true → (∀ y ∈ l, leS p y) ∧ l.Pairwise leS
  | [], _, _ => ⟨fun _ h => (nomatch h), .nil⟩
  | x :: r, p, h => by
    unfold risingS at h
    rw [Bool.and_eq_true] at h
    have h1 : leS p x := leS_of (by simpa using h.1)
    obtain ⟨h2, h3⟩ := rising_pw h.2
    refine ⟨fun y hy => ?_, .cons h2 h3⟩
    rcases List.mem_cons.mp hy with rfl | hy
    · exact h1
    · exact leS_trans h1 (h2 y hy)
theorem sorted_pw : ∀ {l : List Str}, sortedS l = true → l.Pairwise leS
  | [], _ => .nil
  | _ :: _, h => .cons (rising_pw h).1 (rising_pw h).2
theorem sorted_one {a b : List Str} (ha : sortedS a = true) (hb : sortedS b = true) (h : a.Perm b) : a = b :=
  h.eq_of_pairwise (fun _ _ _ _ => leS_antisymm) (sorted_pw ha) (sorted_pw hb)
theorem rising_one {α : Type} {f : α → Nat} {a b : List α} (hinj : ∀ x ∈ a, ∀ y ∈ b, f x = f y → x = y) (ha : (a.map f).Pairwise (· < ·)) (hb : (b.map f).Pairwise (· < ·)) (h : a.Perm b) : a = b :=
  h.eq_of_pairwise (le := fun x y => f x ≤ f y) (fun x y hx hy h1 h2 => hinj x hx y hy (Nat.le_antisymm h1 h2)) ((List.pairwise_map.mp ha).imp Nat.le_of_lt) ((List.pairwise_map.mp hb).imp Nat.le_of_lt)

/-! scopes -/
noncomputable def uriL : List Str := ["u:9", "", "u:1", "u:2", "u:3"]
abbrev xm (X : Str) : Str × Str := (Str.ofString "xml", X)
structure KeysOk (ps : List (Str × Str)) : Prop where
  nd : (ps.map (·.1)).Nodup
  key : ∀ p ∈ ps, p.1 ∈ prefL ∧ p.2 ∈ uriL
theorem pref_ne {p : Str} (h : p ∈ prefL) : p ≠ "xml" := by
  have : ∀ p ∈ prefL, p ≠ "xml" := by decide +kernel
  exact this p h
theorem stepS_xml {X : Str} {ps : List (Str × Str)} {p : Str × Str} (h : p.1 ≠ "xml") : stepS (xm X :: ps) p = xm X :: stepS ps p := by
  have h' : ¬ (Str.ofString "xml") = p.1 := fun e => h e.symm
  unfold stepS
  split
  · unfold del2
    rw [List.filter_cons]
    simp [h']
  · unfold put2
    rw [List.any_cons]
    simp only [h', decide_false, Bool.false_or]
    split
    · rw [List.map_cons]
      simp only [h', if_false]
    · rfl
theorem foldS_xml {X : Str} : ∀ {us : List (Str × Str)} {ps : List (Str × Str)}, (∀ p ∈ us, p.1 ≠ "xml") → us.foldl stepS (xm X :: ps) = xm X :: us.foldl stepS ps
  | [], _, _ => rfl
  | p :: us, ps, h => by
    rw [List.foldl_cons, List.foldl_cons, stepS_xml (h p (.head _))]
    exact foldS_xml fun q hq => h q (.tail _ hq)
theorem KeysOk.step {ps : List (Str × Str)} (h : KeysOk ps) {p : Str × Str} (h1 : p.1 ∈ prefL) (h2 : p.2 ∈ uriL) : KeysOk (stepS ps p) := by
  unfold stepS
  split
  · unfold del2
    exact ⟨h.nd.sublist (List.filter_sublist.map _), fun q hq => h.key q (List.mem_filter.mp hq).1⟩
  · unfold put2
    split
    · have e : (ps.map fun q => if q.1 = p.1 then (q.1, p.2) else q).map (·.1) = ps.map (·.1) := by
        rw [List.map_map]
        refine List.map_congr_left fun q _ => ?_
        show (if q.1 = p.1 then (q.1, p.2) else q).1 = q.1
        split <;> rfl
      refine ⟨by rw [e]; exact h.nd, fun q hq => ?_⟩
      obtain ⟨q', hq', rfl⟩ := List.mem_map.mp hq
      have := h.key q' hq'
      split
      · exact ⟨this.1, h2⟩
      · exact this
    · rename_i hn
      refine ⟨?_, fun q hq => ?_⟩
      · rw [List.map_append, List.nodup_append]
        refine ⟨h.nd, by simp, fun a ha b hb e => ?_⟩
        have hb' : b = p.1 := by simpa using hb
        obtain ⟨q, hq, rfl⟩ := List.mem_map.mp ha
        exact hn (List.any_eq_true.mpr ⟨q, hq, by simpa using e.trans hb'⟩)
      · rcases List.mem_append.mp hq with hq | hq
        · exact h.key q hq
        · rw [List.mem_singleton.mp hq]
          exact ⟨h1, h2⟩
theorem KeysOk.fold : ∀ {us : List (Str × Str)} {ps : List (Str × Str)}, KeysOk ps → (∀ p ∈ us, p.1 ∈ prefL ∧ p.2 ∈ uriL) → KeysOk (us.foldl stepS ps)
  | [], _, h, _ => h
  | p :: us, _, h, hu => KeysOk.fold (us := us) (h.step (hu p (.head _)).1 (hu p (.head _)).2) fun q hq => hu q (.tail _ hq)
theorem look_cons_ne {x : Str × Str} {ps : List (Str × Str)} {k : Str} (h : x.1 ≠ k) : look (x :: ps) k = look ps k := by
  unfold look
  rw [List.find?_cons]
  simp [h]
theorem look_some_mem {ps : List (Str × Str)} {k u : Str} (h : look ps k = some u) : (k, u) ∈ ps := by
  unfold look at h
  obtain ⟨p, hp, rfl⟩ := Option.map_eq_some_iff.mp h
  have h1 := List.mem_of_find?_eq_some hp
  have h2 := List.find?_some hp
  have h3 : p.1 = k := by simpa using h2
  rw [← h3]; exact h1
theorem look_isSome {ps : List (Str × Str)} {k : Str} : (look ps k).isSome = (ps.map (·.1)).contains k := by
  cases e : look ps k with
  | some u => 
    have : k ∈ ps.map (·.1) := List.mem_map.mpr ⟨_, look_some_mem e, rfl⟩
    simp only [Option.isSome_some]
    exact (List.contains_iff_mem.mpr this).symm
  | none =>
    simp only [Option.isSome_none]
    cases h : (ps.map (·.1)).contains k with
    | false => rfl
    | true => obtain ⟨u, hu⟩ := look_mem (List.contains_iff_mem.mp h); rw [hu] at e; cases e
theorem pref_sorted (f : Str → Bool) : sortedS (prefL.filter f ++ [Str.ofString "xml"]) = true := by
  unfold prefL
  cases h1 : f "" <;> cases h2 : f "p" <;> cases h3 : f "q" <;> cases h4 : f "r" <;> simp only [List.filter_cons, List.filter_nil, h1, h2, h3, h4, if_true, Bool.false_eq_true, if_false] <;> decide +kernel
theorem pref_nd : prefL.Nodup := by decide +kernel
theorem uri_repl {u : Str} (h : u ∈ uriL) : repl u valuePairs = u ∧ ROk u valuePairs = true ∧ u.length ≤ 5 := by
  have : ∀ u ∈ uriL, repl u valuePairs = u ∧ ROk u valuePairs = true ∧ u.length ≤ 5 := by decide +kernel
  exact this u h
theorem told_eq {sc kn : List (Str × Str)} {X Y : Str} {ss : List Str} (hsc : KeysOk sc) (hp : ss.Perm ((xm X :: sc).map (·.1))) (hs : sortedS ss = true) :
    toldNames (xm X :: sc) (xm Y :: kn) ss = prefL.foldl (tagStep sc kn) (tagInit sc kn) := by
  have hperm : (prefL.filter fun p => (sc.map (·.1)).contains p).Perm (sc.map (·.1)) := by
    refine (List.perm_ext_iff_of_nodup (pref_nd.sublist List.filter_sublist) hsc.nd).mpr fun a => ?_
    rw [List.mem_filter, List.contains_iff_mem]
    refine ⟨fun h => h.2, fun h => ⟨?_, h⟩⟩
    obtain ⟨q, hq, rfl⟩ := List.mem_map.mp h
    exact (hsc.key q hq).1
  have hss : ss = (prefL.filter fun p => (sc.map (·.1)).contains p) ++ [Str.ofString "xml"] := by
    refine sorted_one hs (pref_sorted _) ?_
    refine hp.trans ?_
    rw [List.map_cons]
    exact (List.Perm.cons _ hperm.symm).trans (List.perm_append_comm (l₁ := [_]))
  subst hss
  have ne : (Str.ofString "xml") ≠ "" := by decide +kernel
  have hx : (Str.ofString " xmlns" ++ Str.ofString ":") = Str.ofString " xmlns:" := by decide +kernel
  have hinit : toldInit (xm X :: sc) (xm Y :: kn) = tagInit sc kn := by
    unfold toldInit tagInit
    rw [look_cons_ne ne, look_cons_ne ne]
  have hstep : ∀ p ∈ prefL, ∀ f, (if (sc.map (·.1)).contains p then toldStep (xm X :: sc) (xm Y :: kn) f p else f) = tagStep sc kn f p := by
    intro p hp f
    have hne := pref_ne hp
    unfold tagStep toldStep
    rw [if_neg hne, look_cons_ne hne.symm, look_cons_ne hne.symm, ← look_isSome]
    cases e : look sc p with
    | none => simp
    | some u =>
      have hu := (hsc.key _ (look_some_mem e)).2
      simp only [Option.isSome_some, if_true, Option.getD_some]
      rw [(uri_repl hu).1]
      split
      · rfl
      · split
        · rw [str_append_empty]
        · rw [← hx]
          simp only [Str.append_assoc]
  unfold toldNames
  rw [List.foldl_append, hinit]
  rw [List.foldl_cons, List.foldl_nil]
  have e1 : ∀ f, toldStep (xm X :: sc) (xm Y :: kn) f (Str.ofString "xml") = f := fun f => if_pos rfl
  rw [e1, List.foldl_filter]
  have : ∀ (l : List Str) (a : Str), (∀ p ∈ l, p ∈ prefL) → l.foldl (fun x y => if (sc.map (·.1)).contains y = true then toldStep (xm X :: sc) (xm Y :: kn) x y else x) a = l.foldl (tagStep sc kn) a := by
    intro l
    induction l with
    | nil => intro a _; rfl
    | cons p l ih =>
      intro a h
      rw [List.foldl_cons, List.foldl_cons, hstep p (h p (.head _)) a]
      exact ih _ fun q hq => h q (.tail _ hq)
  exact this prefL _ fun _ h => h
end
end Mine
end -- P1

section -- P2
open PySem PySem.W PySem.Calls PyProof.Rows PySem.Builtin PySem.Spec
namespace Mine
section
/-! attributes -/
abbrev A3 := Str × Str × Str
noncomputable def akey (a : A3) : Str × Str := (a.1, a.2.1)
noncomputable def r4 (a : A3) : R4 := (uriOf a.1, a.2.1, qn a.1 a.2.1, a.2.2)
noncomputable def rkK (u l : Str) : Nat := if u = "" then 0 else if u = "u:1" then (if l = "a" then 1 else 2) else if u = "u:2" then 3 else 4
noncomputable def rk0 (r : R4) : Nat := rkK r.1 r.2.1
noncomputable def rkA (k : Str × Str) : Nat := rkK (uriOf k.1) k.2
structure AttsOk (as : List A3) : Prop where
  nd : (as.map akey).Nodup
  key : ∀ a ∈ as, akey a ∈ attrL
  val : ∀ a ∈ as, a.2.2 ∈ wordL
theorem rk_lt {k : Str × Str} (h : k ∈ attrL) : rkA k < 5 := by
  have : ∀ k ∈ attrL, rkA k < 5 := by decide +kernel
  exact this k h
theorem rk_inj {k k' : Str × Str} (h : k ∈ attrL) (h' : k' ∈ attrL) (e : rkA k = rkA k') : k = k' := by
  have : ∀ k ∈ attrL, ∀ k' ∈ attrL, rkA k = rkA k' → k = k' := by decide +kernel
  exact this k h k' h' e
theorem rk_ord {k k' : Str × Str} (h : k ∈ attrL) (h' : k' ∈ attrL) (e : rkA k ≠ rkA k') : (uriOf k.1, k.2) ≠ (uriOf k'.1, k'.2) ∧
    (if uriOf k.1 = uriOf k'.1 then decide (k.2.cps.toList < k'.2.cps.toList) else decide ((uriOf k.1).cps.toList < (uriOf k'.1).cps.toList)) = decide (rkA k < rkA k') := by
  have : ∀ k ∈ attrL, ∀ k' ∈ attrL, rkA k ≠ rkA k' → (uriOf k.1, k.2) ≠ (uriOf k'.1, k'.2) ∧
    (if uriOf k.1 = uriOf k'.1 then decide (k.2.cps.toList < k'.2.cps.toList) else decide ((uriOf k.1).cps.toList < (uriOf k'.1).cps.toList)) = decide (rkA k < rkA k') := by decide +kernel
  exact this k h k' h' e
theorem order_rk : (orderL.map rkA).Pairwise (· < ·) := by decide +kernel
theorem order_attr {k : Str × Str} : k ∈ orderL ↔ k ∈ attrL := by
  have h1 : ∀ k ∈ orderL, k ∈ attrL := by decide +kernel
  have h2 : ∀ k ∈ attrL, k ∈ orderL := by decide +kernel
  exact ⟨h1 k, h2 k⟩
theorem word_repl {v : Str} (h : v ∈ wordL) : repl v valuePairs = signsOf true v ∧ ROk v valuePairs = true ∧ (repl v valuePairs).length ≤ 40 ∧ repl v textPairs = signsOf false v ∧ ROk v textPairs = true ∧ (repl v textPairs).length ≤ 40 := by
  have : ∀ v ∈ wordL, repl v valuePairs = signsOf true v ∧ ROk v valuePairs = true ∧ (repl v valuePairs).length ≤ 40 ∧ repl v textPairs = signsOf false v ∧ ROk v textPairs = true ∧ (repl v textPairs).length ≤ 40 := by decide +kernel
  exact this v h
theorem qn_len {k : Str × Str} (h : k ∈ attrL) : (qn k.1 k.2).length ≤ 5 := by
  have : ∀ k ∈ attrL, (qn k.1 k.2).length ≤ 5 := by decide +kernel
  exact this k h
theorem akey_inj {as : List A3} (h : (as.map akey).Nodup) : ∀ {a b : A3}, a ∈ as → b ∈ as → akey a = akey b → a = b := by
  induction as with
  | nil => intro a b ha; cases ha
  | cons x as ih =>
    rw [List.map_cons, List.nodup_cons] at h
    intro a b ha hb e
    rcases List.mem_cons.mp ha with h1 | h1 <;> rcases List.mem_cons.mp hb with h2 | h2
    · rw [h1, h2]
    · exact absurd (List.mem_map.mpr ⟨b, h2, by rw [← e, h1]⟩) h.1
    · exact absurd (List.mem_map.mpr ⟨a, h1, by rw [e, h2]⟩) h.1
    · exact ih h.2 h1 h2 e
theorem AttsOk.rk {as : List A3} (h : AttsOk as) : RkOk rk0 (as.map r4) := by
  refine ⟨fun r hr => ?_, ?_, fun r hr r' hr' e => ?_⟩
  · obtain ⟨a, ha, rfl⟩ := List.mem_map.mp hr
    exact rk_lt (h.key a ha)
  · rw [List.map_map]
    have e : as.map (rk0 ∘ r4) = (as.map akey).map rkA := by rw [List.map_map]; rfl
    rw [e]
    rw [List.nodup_iff_pairwise_ne, List.pairwise_map]
    refine (List.nodup_iff_pairwise_ne.mp h.nd).imp_of_mem fun {k k'} hk hk' hne e => hne ?_
    obtain ⟨a, ha, rfl⟩ := List.mem_map.mp hk
    obtain ⟨b, hb, rfl⟩ := List.mem_map.mp hk'
    exact rk_inj (h.key a ha) (h.key b hb) e
  · obtain ⟨a, ha, rfl⟩ := List.mem_map.mp hr
    obtain ⟨b, hb, rfl⟩ := List.mem_map.mp hr'
    exact rk_ord (h.key a ha) (h.key b hb) e
theorem AttsOk.atb {as : List A3} (h : AttsOk as) : ∀ r ∈ as.map r4, AtB r := by
  intro r hr
  obtain ⟨a, ha, rfl⟩ := List.mem_map.mp hr
  obtain ⟨w1, w2, w3, _⟩ := word_repl (h.val a ha)
  have hq := qn_len (h.key a ha)
  exact ⟨Nat.le_trans hq (by decide), w2, Nat.le_trans w3 (by decide)⟩
noncomputable def fk (as : List A3) (k : Str × Str) : Option A3 := as.find? fun a => decide (akey a = k)
noncomputable def attOut (a : A3) : Str := Str.ofString " " ++ qn a.1 a.2.1 ++ "=\"" ++ signsOf true a.2.2 ++ "\""
theorem fk_some {as : List A3} {k : Str × Str} {a : A3} (h : fk as k = some a) : a ∈ as ∧ akey a = k := by
  unfold fk at h
  exact ⟨List.mem_of_find?_eq_some h, by simpa using List.find?_some h⟩
theorem fk_of {as : List A3} (hn : (as.map akey).Nodup) {a : A3} (ha : a ∈ as) : fk as (akey a) = some a := by
  cases e : fk as (akey a) with
  | some b =>
    obtain ⟨h1, h2⟩ := fk_some e
    rw [akey_inj hn h1 ha h2]
  | none =>
    unfold fk at e
    rw [List.find?_eq_none] at e
    exact absurd (by simp) (e a ha)
theorem tagAtts_eq {as : List A3} (hn : (as.map akey).Nodup) (f : Str) (k : Str × Str) : tagAtts as f k = match fk as k with | some a => f ++ attOut a | none => f := by
  induction as generalizing f with
  | nil => rfl
  | cons x as ih =>
    rw [List.map_cons, List.nodup_cons] at hn
    unfold tagAtts fk
    rw [List.foldl_cons, List.find?_cons]
    by_cases hx : akey x = k
    · have h1 : tagAtt k f x = f ++ attOut x := by
        subst hx
        unfold tagAtt attOut
        rw [if_pos ⟨rfl, rfl⟩]
        simp only [akey, Str.append_assoc]
      rw [h1]
      have h2 := ih hn.2 (f ++ attOut x)
      have h3 : fk as k = none := by
        cases e : fk as k with
        | none => rfl
        | some b =>
          obtain ⟨q1, q2⟩ := fk_some e
          exact absurd (List.mem_map.mpr ⟨b, q1, q2.trans hx.symm⟩) hn.1
      rw [h3] at h2
      unfold tagAtts at h2
      rw [h2]
      simp [hx]
    · have h1 : tagAtt k f x = f := by
        unfold tagAtt
        rw [if_neg]
        intro h
        exact hx (Prod.ext h.1 h.2)
      rw [h1]
      have h2 := ih hn.2 f
      unfold tagAtts fk at h2
      rw [h2]
      simp [hx]
theorem tagAtts_fold {as : List A3} (hn : (as.map akey).Nodup) : ∀ (l : List (Str × Str)) (f : Str), l.foldl (tagAtts as) f = f ++ catS ((l.filterMap (fk as)).map attOut)
  | [], f => by
    show f = f ++ catS []
    rw [catS_nil, str_append_empty]
  | k :: l, f => by
    rw [List.foldl_cons, tagAtts_fold hn l, tagAtts_eq hn]
    cases e : fk as k with
    | none => rw [List.filterMap_cons_none e]
    | some a => rw [List.filterMap_cons_some e, List.map_cons, catS_cons, Str.append_assoc]
theorem filterMap_sub {α β : Type} {fk : α → Option β} {g : β → Nat} {g' : α → Nat} (h : ∀ k a, fk k = some a → g a = g' k) : ∀ l : List α, ((l.filterMap fk).map g).Sublist (l.map g')
  | [] => .slnil
  | k :: l => by
    cases e : fk k with
    | none => rw [List.filterMap_cons_none e, List.map_cons]; exact (filterMap_sub h l).cons _
    | some a => rw [List.filterMap_cons_some e, List.map_cons, List.map_cons, h k a e]; exact (filterMap_sub h l).cons_cons _
theorem atts_eq {as : List A3} (h : AttsOk as) {out : List R4} (hp : out.Perm (as.map r4)) (hs : (out.map rk0).Pairwise (· < ·)) (f : Str) : f ++ Txt.join "" (out.map toldA) = orderL.foldl (tagAtts as) f := by
  have hL : ∀ a, a ∈ orderL.filterMap (fk as) ↔ a ∈ as := by
    intro a
    rw [List.mem_filterMap]
    constructor
    · rintro ⟨k, _, hk⟩
      exact (fk_some hk).1
    · intro ha
      exact ⟨akey a, order_attr.mpr (h.key a ha), fk_of h.nd ha⟩
  have hinc : (((orderL.filterMap (fk as)).map r4).map rk0).Pairwise (· < ·) := by
    rw [List.map_map]
    exact order_rk.sublist (filterMap_sub (fun k a e => by rw [← (fk_some e).2]; rfl) orderL)
  have hnd : (orderL.filterMap (fk as)).Nodup := by
    rw [List.map_map, List.pairwise_map] at hinc
    exact List.nodup_iff_pairwise_ne.mpr (hinc.imp fun {a b} hlt e => by rw [e] at hlt; exact absurd hlt (Nat.lt_irrefl _))
  have hnd2 : as.Nodup := by
    have := h.nd
    rw [List.nodup_iff_pairwise_ne, List.pairwise_map] at this
    exact List.nodup_iff_pairwise_ne.mpr (this.imp fun {a b} hne e => hne (by rw [e]))
  have hperm : (orderL.filterMap (fk as)).Perm as := (List.perm_ext_iff_of_nodup hnd hnd2).mpr hL
  have hout : out = (orderL.filterMap (fk as)).map r4 := by
    refine rising_one (f := rk0) (fun x hx y hy e => ?_) hs hinc (hp.trans (hperm.map r4).symm)
    obtain ⟨a, ha, rfl⟩ := List.mem_map.mp (hp.mem_iff.mp hx)
    obtain ⟨b, hb, rfl⟩ := List.mem_map.mp hy
    have hb' := (hL b).mp hb
    rw [akey_inj h.nd ha hb' (rk_inj (h.key a ha) (h.key b hb') e)]
  rw [tagAtts_fold h.nd, hout, List.map_map]
  show f ++ catS _ = _
  refine congrArg (fun l => f ++ catS l) (List.map_congr_left fun a ha => ?_)
  obtain ⟨w1, _⟩ := word_repl (h.val a ((hL a).mp ha))
  show toldA (r4 a) = attOut a
  unfold toldA attOut r4
  dsimp only
  rw [w1]
end
end Mine
end -- P2

section -- P3
open PySem PySem.W PySem.Calls PyProof.Rows PySem.Builtin PySem.Spec
namespace Mine
section
/-! rows -/
theorem sub_of_perm {α : Type} {a b c : List α} (h : (a ++ b).Perm c) (hc : c.Nodup) : a.Nodup ∧ (∀ x ∈ a, x ∈ c) ∧ a.length ≤ c.length := by
  have h1 := h.nodup_iff.mpr hc
  refine ⟨(List.nodup_append.mp h1).1, fun x hx => h.mem_iff.mp (List.mem_append_left _ hx), ?_⟩
  have := h.length_eq
  rw [List.length_append] at this
  omega
theorem attrL_nd : attrL.Nodup := by decide +kernel
theorem RowOk.atts {r : Row} (h : RowOk r) : AttsOk r.attrs := by
  obtain ⟨zs, hz⟩ := h.attrs
  obtain ⟨h1, h2, _⟩ := sub_of_perm hz attrL_nd
  exact ⟨h1, fun a ha => h2 _ (List.mem_map.mpr ⟨a, ha, rfl⟩), h.vals⟩
theorem RowOk.keys {r : Row} (h : RowOk r) : (∀ p ∈ r.uris, p.1 ∈ prefL ∧ p.2 ∈ uriL) ∧ r.uris.length ≤ 4 ∧ (r.uris.map (·.1)).Nodup := by
  obtain ⟨zs, hz⟩ := h.uris
  obtain ⟨h1, h2, h3⟩ := sub_of_perm hz pref_nd
  have hu : ∀ p ∈ prefL, uriOf p ∈ uriL := by decide +kernel
  refine ⟨fun p hp => ?_, by rw [List.length_map] at h3; exact h3, h1⟩
  have hp1 := h2 _ (List.mem_map.mpr ⟨p, hp, rfl⟩)
  refine ⟨hp1, ?_⟩
  rcases h.uri p hp with e | e
  · rw [e]; exact .head _
  · rw [e]; exact hu _ hp1
theorem RowOk.alen {r : Row} (h : RowOk r) : r.attrs.length ≤ 5 := by
  obtain ⟨zs, hz⟩ := h.attrs
  obtain ⟨_, _, h3⟩ := sub_of_perm hz attrL_nd
  rw [List.length_map] at h3
  exact h3
theorem name_len {n : Str} (h : n ∈ nameL) : n.length ≤ 3 := by
  have : ∀ n ∈ nameL, n.length ≤ 3 := by decide +kernel
  exact this n h
theorem RowOk.b {r : Row} (h : RowOk r) : RowB r := by
  have hk := h.keys
  have ha := h.atts
  have hal := h.alen
  refine ⟨h.name, hk.2.2, ?_, fun p hp => ?_, Nat.le_trans hk.2.1 (by decide), Nat.le_trans hal (by decide)⟩
  · have e : (r.attrs.map fun p => (uriOf p.1, p.2.1)) = (r.attrs.map akey).map fun k => (uriOf k.1, k.2) := by rw [List.map_map]; rfl
    rw [e, List.nodup_iff_pairwise_ne, List.pairwise_map]
    refine (List.nodup_iff_pairwise_ne.mp ha.nd).imp_of_mem fun {k k'} hk hk' hne e => hne ?_
    obtain ⟨a, hx, rfl⟩ := List.mem_map.mp hk
    obtain ⟨b, hy, rfl⟩ := List.mem_map.mp hk'
    have key : ∀ k ∈ attrL, ∀ k' ∈ attrL, (uriOf k.1, k.2) = (uriOf k'.1, k'.2) → k = k' := by decide +kernel
    exact key _ (ha.key a hx) _ (ha.key b hy) e
  · have key : ∀ k ∈ attrL, k.1 ∈ prefL ∧ k.2.length ≤ 100 := by decide +kernel
    exact key _ (ha.key p hp)

/-! the rows as they stand in the tree -/
noncomputable def lvl (e : Nat) (r : Row) : Lvl := ⟨e, r.name, r.uris, r.attrs.map r4, if r.text = "" then none else some (e + 1 + r.uris.length + r.attrs.length, r.text)⟩
noncomputable def lvls : List Row → List Nat → List Lvl
  | r :: rs, e :: es => lvl e r :: lvls rs es
  | _, _ => []
theorem steps_len : ∀ {rs : List Row} {t t' : List NR} {ab : Nat} {fs : List Nat}, Steps t ab rs t' fs → fs.length = rs.length
  | [], _, _, _, _, ⟨_, e⟩ => by rw [e]; rfl
  | _ :: rs, _, _, _, _, ⟨_, _, e, h⟩ => by rw [e, List.length_cons, List.length_cons, steps_len h]
theorem lvls_hd {rs : List Row} {fs : List Nat} (h : fs.length = rs.length) : hdE (lvls rs fs) = fs.take 1 := by
  cases rs with
  | nil => cases fs with
    | nil => rfl
    | cons => cases h
  | cons r rs => cases fs with
    | nil => cases h
    | cons e es => rfl
theorem lvls_len : ∀ {rs : List Row} {fs : List Nat}, (lvls rs fs).length ≤ rs.length
  | [], _ => Nat.zero_le _
  | _ :: _, [] => Nat.zero_le _
  | _ :: _, _ :: _ => Nat.succ_le_succ lvls_len
theorem addCh_at {t : List NR} {ab e : Nat} {nr : NR} (h : t[ab]? = some nr) : (addCh t ab e)[ab]? = some { nr with ch := nr.ch ++ [e] } := by
  unfold addCh
  rw [h]
  dsimp only
  rw [List.getElem?_set_self (List.getElem?_eq_some_iff.mp h).1]
theorem addCh_ne {t : List NR} {ab e i : Nat} (h : i ≠ ab) : (addCh t ab e)[i]? = t[i]? := by
  unfold addCh
  split
  · rw [List.getElem?_set_ne (Ne.symm h)]
  · rfl
theorem steps_keep : ∀ {rs : List Row} {t t' : List NR} {ab : Nat} {fs : List Nat}, Steps t ab rs t' fs →
    (∀ nr, t[ab]? = some nr → t'[ab]? = some { nr with ch := nr.ch ++ fs.take 1 }) ∧ ∀ i, i < t.length → i ≠ ab → t'[i]? = t[i]?
  | [], t, t', ab, fs, ⟨e1, e2⟩ => by
    subst e1 e2
    refine ⟨fun nr h => ?_, fun _ _ _ => rfl⟩
    rw [h, List.take_nil, List.append_nil]
  | r :: rs, t, t', ab, fs, ⟨lc, fs', e, h⟩ => by
    subst e
    obtain ⟨_, k2⟩ := steps_keep h
    refine ⟨fun nr hn => ?_, fun i hi hne => ?_⟩
    · have hab : ab < t.length := (List.getElem?_eq_some_iff.mp hn).1
      rw [k2 ab (by rw [List.length_append, addCh_len]; omega) (Nat.ne_of_lt hab), List.getElem?_append_left (by rw [addCh_len]; exact hab), addCh_at hn]
      rfl
    · rw [k2 i (by rw [List.length_append, addCh_len]; omega) (Nat.ne_of_lt hi), List.getElem?_append_left (by rw [addCh_len]; exact hi), addCh_ne hne]
theorem each_ix {β : Type} {R : Nat → β → Prop} {k : Nat} : ∀ {us : List β}, (∀ a p, us[a]? = some p → R (k + a) p) → Each R (ix k us.length) us := by
  intro us
  induction us generalizing k with
  | nil => intro _; trivial
  | cons p us ih =>
    intro h
    have e : ix k (p :: us).length = k :: ix (k + 1) us.length := by
      unfold ix
      rw [List.length_cons, List.range_succ_eq_map, List.map_cons, List.map_map]
      refine congrArg (k :: ·) (List.map_congr_left fun a _ => ?_)
      show k + (a + 1) = k + 1 + a
      omega
    rw [e]
    exact ⟨h 0 p rfl, ih fun a q hq => by
      have := h (a + 1) q (by simpa using hq)
      rw [show k + 1 + a = k + (a + 1) by omega]
      exact this⟩
noncomputable def lvTx (e : Nat) (r : Row) : List Nat := if r.text = "" then [] else [e + 1 + r.uris.length + r.attrs.length]
/-- what stands in the tree for a row -/
structure At1 (t : List NR) (ab e : Nat) (lc : Str) (r : Row) (nx : List Nat) : Prop where
  el : t[e]? = some (elRow ab r.name lc (ix (e + 1) r.uris.length) (ix (e + 1 + r.uris.length) r.attrs.length) (lvTx e r ++ nx))
  ns : ∀ a p, r.uris[a]? = some p → t[e + 1 + a]? = some (nsRow e p)
  at' : ∀ a p, r.attrs[a]? = some p → t[e + 1 + r.uris.length + a]? = some (atRow e p)
  tx : r.text ≠ "" → t[e + 1 + r.uris.length + r.attrs.length]? = some (nrOf "text" "" "" "" r.text (some e))
theorem steps_at {r : Row} {rs : List Row} {t t' : List NR} {ab : Nat} {fs : List Nat} (h : Steps t ab (r :: rs) t' fs) : ∃ lc fs', fs = t.length :: fs' ∧ At1 t' ab t.length lc r (fs'.take 1) ∧ Steps (addCh t ab t.length ++ rowBlock ab t.length lc r) t.length rs t' fs' := by
  obtain ⟨lc, fs', e, h⟩ := h
  refine ⟨lc, fs', e, ?_, h⟩
  obtain ⟨k1, k2⟩ := steps_keep h
  obtain ⟨T0, hT0⟩ : ∃ T0, T0 = addCh t ab t.length := ⟨_, rfl⟩
  have hl : T0.length = t.length := by rw [hT0, addCh_len]
  rw [← hT0, ← hl] at k1 k2
  rw [← hl]
  obtain ⟨X, hX⟩ : ∃ X : List NR, rowBlock ab T0.length lc r = elBlock ab T0.length r.name lc r.uris r.attrs (lvTx T0.length r) ++ X ∧ (r.text ≠ "" → X = [nrOf "text" "" "" "" r.text (some T0.length)]) := by
    unfold rowBlock lvTx
    by_cases ht : r.text = ""
    · rw [if_pos ht, if_pos ht]
      exact ⟨[], (List.append_nil _).symm, fun h => absurd ht h⟩
    · rw [if_neg ht, if_neg ht]
      exact ⟨_, rfl, fun _ => rfl⟩
  rw [hX.1, ← List.append_assoc] at k1 k2
  have lt : ∀ {i : Nat} {o : NR}, (T0 ++ elBlock ab T0.length r.name lc r.uris r.attrs (lvTx T0.length r) ++ X)[i]? = some o → i ≠ T0.length → t'[i]? = some o := fun {i o} hi hne => by
    rw [k2 i (List.getElem?_eq_some_iff.mp hi).1 hne]; exact hi
  refine ⟨k1 _ el_at, fun a p hp => lt (ns_at hp) (by omega), fun a p hp => lt (at_at hp) (by omega), fun ht => lt ?_ (by omega)⟩
  have hb : (T0 ++ elBlock ab T0.length r.name lc r.uris r.attrs (lvTx T0.length r)).length = T0.length + 1 + r.uris.length + r.attrs.length := by rw [List.length_append, elBlock_len]; omega
  rw [List.getElem?_append_right (by omega), hb, Nat.sub_self, hX.2 ht]
  rfl
end
end Mine
end -- P3

section -- P4
open PySem PySem.W PySem.Calls PyProof.Rows PySem.Builtin PySem.Spec
namespace Mine
section
theorem lvl_ok {t : List NR} {ab e : Nat} {lc : Str} {r : Row} {nx : List Nat} (h : At1 t ab e lc r nx) (hr : RowOk r) : LvlOk rk0 t (lvl e r) nx := by
  have ha := hr.atts
  have hk := hr.keys
  refine ⟨⟨_, h.el, rfl, rfl, ?_⟩, Nat.le_trans (name_len hr.name) (by decide), ⟨_, h.el, each_ix fun a p hp => ⟨_, h.ns a p hp, rfl, rfl⟩⟩, Nat.le_trans hk.2.1 (by decide), ⟨_, h.el, ?_⟩, by show (r.attrs.map r4).length ≤ 5; rw [List.length_map]; exact hr.alen, ha.atb, ha.rk, fun p hp => ?_⟩
  · show lvTx e r ++ nx = txCh (if r.text = "" then none else some (e + 1 + r.uris.length + r.attrs.length, r.text)) ++ nx
    unfold lvTx
    split <;> rfl
  · show Each _ (ix (e + 1 + r.uris.length) r.attrs.length) (r.attrs.map r4)
    have hl : r.attrs.length = (r.attrs.map r4).length := (List.length_map _).symm
    rw [hl]
    refine each_ix fun a q hq => ?_
    rw [List.getElem?_map, Option.map_eq_some_iff] at hq
    obtain ⟨p, hp, rfl⟩ := hq
    exact ⟨_, h.at' a p hp, rfl, rfl, rfl, rfl⟩
  · have hp' : (if r.text = "" then none else some (e + 1 + r.uris.length + r.attrs.length, r.text)) = some p := hp
    split at hp'
    · cases hp'
    · rename_i ht
      cases hp'
      obtain ⟨_, _, _, w4, w5, w6⟩ := word_repl hr.text
      exact ⟨_, h.tx ht, rfl, rfl, w5, Nat.le_trans w6 (by decide)⟩
theorem scB_ok {S : List (Str × Str)} {X : Str} (h : KeysOk S) (hl : S.length ≤ 19) : ScB (xm X :: S) := by
  refine ⟨by rw [List.length_cons]; omega, fun p hp => ?_, fun p u hu hne => ?_⟩
  · rcases List.mem_cons.mp hp with rfl | hp
    · show (Str.ofString "xml").length ≤ 10
      decide +kernel
    · have : ∀ p ∈ prefL, p.length ≤ 10 := by decide +kernel
      exact this _ (h.key p hp).1
  · rw [look_cons_ne (Ne.symm hne)] at hu
    obtain ⟨h1, h2, h3⟩ := uri_repl (h.key _ (look_some_mem hu)).2
    exact ⟨h2, by rw [h1]; omega⟩
theorem row_ne {r : Row} (h : RowOk r) : ∀ p ∈ r.uris, p.1 ≠ "xml" := fun p hp => pref_ne (h.keys.1 p hp).1
theorem KeysOk.next {ps : List (Str × Str)} {r : Row} (h : KeysOk ps) (hr : RowOk r) : KeysOk (scopeNext ps r) := h.fold hr.keys.1
theorem next_len {ps : List (Str × Str)} {r : Row} (hr : RowOk r) : (scopeNext ps r).length ≤ ps.length + 4 := by
  have := len_steps r.uris ps
  have := hr.keys.2.1
  unfold scopeNext
  omega
theorem chain_ok {X : Str} : ∀ {rs : List Row} {r : Row} {t t' : List NR} {ab : Nat} {fs : List Nat} {ps : List (Str × Str)}, Steps t ab (r :: rs) t' fs → KeysOk ps → (∀ q ∈ r :: rs, RowOk q) → ps.length + 4 * (rs.length + 1) ≤ 19 →
    ChainOk rk0 t' (xm X :: scopeNext ps r) (lvls (r :: rs) fs) := by
  intro rs
  induction rs with
  | nil =>
    intro r t t' ab fs ps h hk hR hl
    obtain ⟨lc, fs', rfl, h1, h2⟩ := steps_at h
    have hr := hR r (.head _)
    have hn := next_len (ps := ps) hr
    refine ⟨scB_ok (hk.next hr) (by simp at hl; omega), ?_, ?_⟩
    · rw [lvls_hd (steps_len h2)]
      exact lvl_ok h1 hr
    · trivial
  | cons r' rs ih =>
    intro r t t' ab fs ps h hk hR hl
    obtain ⟨lc, fs', rfl, h1, h2⟩ := steps_at h
    have hr := hR r (.head _)
    have hr' := hR r' (.tail _ (.head _))
    have hn := next_len (ps := ps) hr
    refine ⟨scB_ok (hk.next hr) (by rw [List.length_cons] at hl; omega), ?_, ?_⟩
    · rw [lvls_hd (steps_len h2)]
      exact lvl_ok h1 hr
    · have hi := ih h2 (hk.next hr) (fun q hq => hR q (.tail _ hq)) (by rw [List.length_cons] at hl; omega)
      obtain ⟨lc', fs'', e, _⟩ := h2
      subst e
      show ChainOk rk0 t' (nextSc (xm X :: scopeNext ps r) (lvl _ r' :: lvls rs fs'')) (lvl _ r' :: lvls rs fs'')
      have e : nextSc (xm X :: scopeNext ps r) (lvl (addCh t ab t.length ++ rowBlock ab t.length lc r).length r' :: lvls rs fs'') = xm X :: scopeNext (scopeNext ps r) r' := foldS_xml (row_ne hr')
      rw [e]
      exact hi
theorem fold_app {X : Str} {uss : List (List (Str × Str))} {us : List (Str × Str)} : foldSS (uss ++ [us]) [xm X] = us.foldl stepS (foldSS uss [xm X]) := by
  unfold foldSS
  rw [List.foldl_append]
  rfl
theorem from_top : ∀ {i : Nat} {rs : List Row} {r : Row} {e : Nat} {t t' : List NR} {ab : Nat} {fs : List Nat} {ps : List (Str × Str)} {path : List Nat} {uss : List (List (Str × Str))}, Steps t ab rs t' fs → KeysOk ps → (∀ q ∈ rs, RowOk q) → ps.length + 4 * rs.length ≤ 19 →
    PathUp t' (some ab) path → Each (NsAt t') path.reverse uss → path.length + rs.length ≤ 9 → (∀ us ∈ uss, us.length ≤ 10) → (∀ X, foldSS uss [xm X] = xm X :: ps) → rs[i]? = some r → fs[i]? = some e →
    ∃ path' uss', FromTop rk0 t' (lvl e r) (lvls (rs.drop (i + 1)) (fs.drop (i + 1))) path' uss' ∧ ∀ X, foldSS uss' [xm X] = xm X :: (rs.take (i + 1)).foldl scopeNext ps := by
  intro i
  induction i with
  | zero =>
    intro rs r e t t' ab fs ps path uss h hk hR hl hp hn hpl hul hX hr he
    cases rs with
    | nil => simp at hr
    | cons r0 rs =>
      have hr0 : r0 = r := by simpa using hr
      subst hr0
      have h' := h
      obtain ⟨lc, fs', rfl, h1, h2⟩ := steps_at h
      have he0 : t.length = e := by simpa using he
      subst he0
      have hrO := hR r0 (.head _)
      have hX' : ∀ X, foldSS (uss ++ [r0.uris]) [xm X] = xm X :: scopeNext ps r0 := fun X => by
        rw [fold_app, hX X]
        exact foldS_xml (row_ne hrO)
      refine ⟨t.length :: path, uss ++ [r0.uris], ⟨⟨rfl, _, h1.el, hp⟩, ?_, ?_, ?_, ?_, ?_⟩, fun X => ?_⟩
      · rw [List.reverse_cons]
        exact hn.snoc (lvl_ok h1 hrO).ns
      · rw [List.length_cons] at hpl ⊢; omega
      · intro us hus
        rcases List.mem_append.mp hus with hus | hus
        · exact hul us hus
        · rw [List.mem_singleton.mp hus]
          exact Nat.le_trans hrO.keys.2.1 (by decide)
      · intro X
        have e : foldSS (uss ++ [r0.uris]) [("xml", X)] = xm X :: scopeNext ps r0 := hX' X
        rw [e]
        exact chain_ok h' hk hR (by rw [List.length_cons] at hl; exact hl)
      · refine Nat.le_trans lvls_len ?_
        rw [List.length_drop]
        rw [List.length_cons] at hpl ⊢
        omega
      · exact hX' X
  | succ i ih =>
    intro rs r e t t' ab fs ps path uss h hk hR hl hp hn hpl hul hX hr he
    cases rs with
    | nil => simp at hr
    | cons r0 rs =>
      obtain ⟨lc, fs', rfl, h1, h2⟩ := steps_at h
      have hrO := hR r0 (.head _)
      have hn4 := next_len (ps := ps) hrO
      rw [List.length_cons] at hl hpl
      have := ih h2 (hk.next hrO) (fun q hq => hR q (.tail _ hq)) (by omega) (path := t.length :: path) (uss := uss ++ [r0.uris]) ⟨rfl, _, h1.el, hp⟩ (by rw [List.reverse_cons]; exact hn.snoc (lvl_ok h1 hrO).ns) (by rw [List.length_cons]; omega)
        (fun us hus => by
          rcases List.mem_append.mp hus with hus | hus
          · exact hul us hus
          · rw [List.mem_singleton.mp hus]
            exact Nat.le_trans hrO.keys.2.1 (by decide)) (fun X => by rw [fold_app, hX X]; exact foldS_xml (row_ne hrO)) (by simpa using hr) (by simpa using he)
      obtain ⟨path', uss', q1, q2⟩ := this
      exact ⟨path', uss', q1, q2⟩

/-! the forms -/
theorem open_eq {sc kn : List (Str × Str)} {X Y : Str} {e : Nat} {r : Row} {o : Str} (hk : KeysOk sc) (hr : RowOk r) (h : OpenOut rk0 (xm X :: sc) (xm Y :: kn) (lvl e r) o) : o = lawTag r sc kn := by
  obtain ⟨ss, out, h1, h2, h3, h4, rfl⟩ := h
  have h3' : out.Perm (r.attrs.map r4) := h3
  rw [told_eq hk h1 h2, Str.append_assoc (Str.ofString "<" ++ (lvl e r).nm), atts_eq hr.atts h3' h4]
  rfl
theorem tx_eq {e : Nat} {r : Row} (hr : RowOk r) : txOut (lvl e r).tx = signsOf false r.text := by
  obtain ⟨_, _, _, w4, _⟩ := word_repl hr.text
  show txOut (if r.text = "" then none else some (e + 1 + r.uris.length + r.attrs.length, r.text)) = _
  split
  · rename_i h
    rw [h]
    decide +kernel
  · exact w4
noncomputable def pairsFrom : List Row → List (Str × Str) → List (Row × List (Str × Str))
  | [], _ => []
  | r :: rs, sc => (r, scopeNext sc r) :: pairsFrom rs (scopeNext sc r)
theorem out_eq : ∀ {rs : List Row} {r : Row} {e : Nat} {fs : List Nat} {ps kn : List (Str × Str)} {X Y o : Str} {A C : Str}, fs.length = rs.length → KeysOk ps → (∀ q ∈ r :: rs, RowOk q) → ElemOut rk0 (xm X :: scopeNext ps r) (xm Y :: kn) (lvl e r :: lvls rs fs) o →
    ((pairsFrom (r :: rs) ps).foldl laidStep (A, C, kn)).1 ++ ((pairsFrom (r :: rs) ps).foldl laidStep (A, C, kn)).2.1 = A ++ o ++ C := by
  intro rs
  induction rs with
  | nil =>
    intro r e fs ps kn X Y o A C hf hk hR h
    have hr := hR r (.head _)
    obtain ⟨a, b, h1, h2, rfl⟩ := h
    have h2' : b = "" := h2
    subst h2'
    rw [open_eq (hk.next hr) hr h1, tx_eq hr]
    show (A ++ lawTag r (scopeNext ps r) kn ++ signsOf false r.text) ++ (Str.ofString "</" ++ r.name ++ ">" ++ C) = A ++ (lawTag r (scopeNext ps r) kn ++ signsOf false r.text ++ Str.ofString "" ++ (Str.ofString "</" ++ r.name ++ ">")) ++ C
    rw [str_append_empty]
    simp only [Str.append_assoc]
  | cons r' rs ih =>
    intro r e fs ps kn X Y o A C hf hk hR h
    have hr := hR r (.head _)
    have hr' := hR r' (.tail _ (.head _))
    cases fs with
    | nil => cases hf
    | cons e' fs =>
      obtain ⟨a, b, h1, h2, rfl⟩ := h
      rw [open_eq (hk.next hr) hr h1, tx_eq hr]
      have en : nextSc (xm X :: scopeNext ps r) (lvl e' r' :: lvls rs fs) = xm X :: scopeNext (scopeNext ps r) r' := foldS_xml (row_ne hr')
      have h2' : ElemOut rk0 (nextSc (xm X :: scopeNext ps r) (lvl e' r' :: lvls rs fs)) (xm X :: scopeNext ps r) (lvl e' r' :: lvls rs fs) b := h2
      rw [en] at h2'
      have hi := ih (A := A ++ lawTag r (scopeNext ps r) kn ++ signsOf false r.text) (C := Str.ofString "</" ++ r.name ++ ">" ++ C) (by simpa using hf) (hk.next hr) (fun q hq => hR q (.tail _ hq)) h2'
      show ((pairsFrom (r' :: rs) (scopeNext ps r)).foldl laidStep (A ++ lawTag r (scopeNext ps r) kn ++ signsOf false r.text, Str.ofString "</" ++ r.name ++ ">" ++ C, scopeNext ps r)).1 ++ ((pairsFrom (r' :: rs) (scopeNext ps r)).foldl laidStep (A ++ lawTag r (scopeNext ps r) kn ++ signsOf false r.text, Str.ofString "</" ++ r.name ++ ">" ++ C, scopeNext ps r)).2.1 = _
      rw [hi]
      show _ = A ++ (lawTag r (scopeNext ps r) kn ++ signsOf false r.text ++ b ++ (Str.ofString "</" ++ r.name ++ ">")) ++ C
      simp only [Str.append_assoc]
theorem pairs_at : ∀ {rs : List Row} {sc : List (Str × Str)} {j : Nat}, (pairsFrom rs sc)[j]? = rs[j]?.map fun r => (r, (rs.take (j + 1)).foldl scopeNext sc)
  | [], _, _ => by simp [pairsFrom]
  | r :: rs, sc, 0 => rfl
  | r :: rs, sc, j + 1 => by
    show (pairsFrom rs (scopeNext sc r))[j]? = _
    rw [pairs_at]
    rfl
theorem pairs_zip {rows : List Row} {i : Nat} : (rows.drop i).zip ((scopesOf rows).drop i) = pairsFrom (rows.drop i) (scAt rows i) := by
  refine List.ext_getElem? fun j => ?_
  rw [pairs_at]
  have hs : ((scopesOf rows).drop i)[j]? = (rows.drop i)[j]?.map fun _ => ((rows.drop i).take (j + 1)).foldl scopeNext (scAt rows i) := by
    rw [List.getElem?_drop, List.getElem?_drop]
    unfold scopesOf
    rw [List.getElem?_map]
    by_cases h : i + j < rows.length
    · rw [List.getElem?_range h, List.getElem?_eq_getElem h, Option.map_some, Option.map_some]
      unfold scAt
      rw [show i + j + 1 = i + (j + 1) by omega, List.take_add, List.foldl_append]
    · rw [List.getElem?_eq_none (show rows.length ≤ i + j by omega), List.getElem?_eq_none (by rw [List.length_range]; omega)]
      rfl
  cases e : (rows.drop i)[j]? with
  | none =>
    rw [List.getElem?_eq_none_iff] at e
    rw [List.getElem?_eq_none (by rw [List.length_zip]; omega)]
    rfl
  | some r =>
    rw [e] at hs
    rw [Option.map_some]
    exact List.getElem?_zip_eq_some.mpr ⟨e, hs⟩
/-- what the law asks of the rows' tree -/
theorem forms_law {rows : List Row} {t : List NR} {fs : List Nat} (h : Steps [rootNR []] 0 rows t fs) (hR : ∀ q ∈ rows, RowOk q) (hl : rows.length ≤ 3) {i : Nat} {r : Row} {e : Nat} (hr : rows[i]? = some r) (he : fs[i]? = some e) :
    ∃ path uss, FromTop rk0 t (lvl e r) (lvls (rows.drop (i + 1)) (fs.drop (i + 1))) path uss ∧ ∀ o, FormOut rk0 uss (lvl e r :: lvls (rows.drop (i + 1)) (fs.drop (i + 1))) o → o = lawLaid rows (scopesOf rows) i := by
  have hroot := (steps_keep h).1 (rootNR []) rfl
  obtain ⟨path, uss, h1, h2⟩ := from_top (ps := []) (path := [0]) (uss := [[]]) h ⟨List.nodup_nil, fun _ h => (nomatch h)⟩ hR (by simp; omega) ⟨rfl, _, hroot, trivial⟩ ⟨⟨_, hroot, trivial⟩, trivial⟩ (by simp; omega)
    (fun us hus => by rw [List.mem_singleton.mp hus]; exact Nat.zero_le _) (fun X => rfl) hr he
  refine ⟨path, uss, h1, fun o ⟨X, Y, ho⟩ => ?_⟩
  have hfl := steps_len h
  have hil : i < rows.length := (List.getElem?_eq_some_iff.mp hr).1
  have hX : foldSS uss [("xml", X)] = xm X :: (rows.take (i + 1)).foldl scopeNext [] := h2 X
  have ht : rows.take (i + 1) = rows.take i ++ [r] := by rw [List.take_add_one, hr]; rfl
  rw [hX, ht, List.foldl_append] at ho
  have hko : KeysOk (scAt rows i) := by
    have key : ∀ (l : List Row) (ps : List (Str × Str)), KeysOk ps → (∀ q ∈ l, RowOk q) → KeysOk (l.foldl scopeNext ps) := by
      intro l
      induction l with
      | nil => intro ps h _; exact h
      | cons q l ih => intro ps h hq; exact ih _ (h.next (hq q (.head _))) fun x hx => hq x (.tail _ hx)
    exact key _ _ ⟨List.nodup_nil, fun _ h => (nomatch h)⟩ fun q hq => hR q (List.mem_of_mem_take hq)
  have hd : rows.drop i = r :: rows.drop (i + 1) := by
    rw [List.drop_eq_getElem_cons hil]
    have : rows[i] = r := by
      have := List.getElem?_eq_getElem hil
      rw [hr] at this
      exact (Option.some.inj this).symm
    rw [this]
  have := out_eq (ps := scAt rows i) (kn := []) (A := "") (C := "") (by rw [List.length_drop, List.length_drop, hfl]) hko (fun q hq => hR q (by rw [← hd] at hq; exact List.mem_of_mem_drop hq)) ho
  unfold lawLaid laidAll
  rw [pairs_zip, hd]
  rw [this]
  show o = Str.ofString "" ++ o ++ Str.ofString ""
  rw [str_append_empty, str_empty_append]
theorem root_law {rows : List Row} {t : List NR} {fs : List Nat} (h : Steps [rootNR []] 0 rows t fs) : t[0]? = some (rootNR (fs.take 1)) := (steps_keep h).1 (rootNR []) rfl
theorem parent_law {r : Row} {rows : List Row} {t : List NR} {fs : List Nat} (h : Steps [rootNR []] 0 (r :: rows) t fs) : ∃ e fs' nr, fs = e :: fs' ∧ t[e]? = some nr ∧ nr.parent = some 0 := by
  obtain ⟨lc, fs', e, h1, _⟩ := steps_at h
  exact ⟨_, fs', _, e, h1.el, rfl⟩
end
end Mine
end -- P4

section -- F25
open PySem PySem.W PySem.Calls PyProof.Rows PySem.Builtin
namespace Mine
section
variable {prog : Program} {w : World} {O : Heap} {A : Around} {P : Params} {mg mb : Str → Option Value} {g : Kn}

theorem scope_vals {rows : List Row} (hR : ∀ q ∈ rows, RowOk q) : ∀ i, KeysOk (scAt rows i) := by
  intro i
  have key : ∀ (l : List Row) (ps : List (Str × Str)), KeysOk ps → (∀ q ∈ l, RowOk q) → KeysOk (l.foldl scopeNext ps) := by
    intro l
    induction l with
    | nil => intro ps h _; exact h
    | cons q l ih => intro ps h hq; exact ih _ (h.next (hq q (.head _))) fun x hx => hq x (.tail _ hx)
  exact key _ _ ⟨List.nodup_nil, fun _ h => (nomatch h)⟩ fun q hq => hR q (List.mem_of_mem_take hq)
theorem tagB_of {rows : List Row} (hR : ∀ q ∈ rows, RowOk q) {i : Nat} {r : Row} {sc : List (Str × Str)} (hr : rows[i]? = some r) (hs : (scopesOf rows)[i]? = some sc) : TagB r sc := by
  have hrO := hR r (List.mem_of_getElem? hr)
  have hk : KeysOk sc := by
    unfold scopesOf at hs
    rw [List.getElem?_map, Option.map_eq_some_iff] at hs
    obtain ⟨j, _, rfl⟩ := hs
    exact scope_vals hR _
  exact ⟨Nat.le_trans (name_len hrO.name) (by decide), fun p u hu => Nat.le_trans (uri_repl (hk.key _ (look_some_mem hu)).2).2.2 (by decide), hrO.vals, Nat.le_trans hrO.alen (by decide)⟩
theorem right_ok (G : Gnd (hk.heap_1 P) O mg mb) (hA : Amb A 12) {rs : Addr} {vs : List Value} {rows : List Row} (hg : g rs (.lst vs)) (hr : Each (RowV g) rows vs) (hR : ∀ q ∈ rows, RowOk q) (hz : rows.length ≤ 3) (hne : rows ≠ []) :
    Calls prog w O A (.ref 432) [.ref rs] g [] (fun v _ => v = .bool true) := by
  refine Calls.fnC (n := 11) [("rows", .ref rs)] (fun _ => none) (fun L => [(L + 3, .cell none), (L + 2, .cell none), (L + 1, .cell (some (.ref rs)))]) G hA (by k_is) (by k_is) (fun _ _ => BindsTo.of_eq rfl) (by kernel_rfl) (by decide +kernel) (by kernel_rfl) (by intro L; kernel_rfl) ?_ (by rfl) (by rfl) (by rfl)
  intro L s env c hA G
  have hh : c.A.handled = none := hA.handled
  have hvl := hr.len
  refine w_seq (w_assignTup ?_ (by rfl) (by rfl))
  walk_at "ms"
  refine w_call (mu := []) _ (fun g' h1 h2 => built_ok G hA.le (h1 _ _ hg) (hr.mono (RowV.mono h1)) (fun q hq => (hR q hq).b) (by omega)) ?_
  rintro _ _ h_2
  refine hide ?_
  intro X_ k_
  first | (refine ex8 h_2 ?_; clear h_2; rintro a f fs fv T t pre mu₁ hr_; first | (refine and5 hr_ ?_; clear hr_; rintro rfl rfl hT hF hS) | (refine and4 hr_ ?_; clear hr_; rintro rfl rfl hT ⟨hF, hS⟩) | (refine and3 hr_ ?_; clear hr_; rintro rfl rfl ⟨hT, hF, hS⟩) | obtain ⟨rfl, rfl, hT, hF, hS⟩ := hr_) | (refine ex7 h_2 ?_; clear h_2; rintro a f fs fv T t pre hr_; first | (refine and6 hr_ ?_; clear hr_; rintro mu₁ rfl rfl hT hF hS) | (refine and5 hr_ ?_; clear hr_; rintro mu₁ rfl rfl hT ⟨hF, hS⟩) | (refine and4 hr_ ?_; clear hr_; rintro mu₁ rfl rfl ⟨hT, hF, hS⟩) | (refine and3 hr_ ?_; clear hr_; rintro mu₁ rfl ⟨rfl, hT, hF, hS⟩) | obtain ⟨mu₁, rfl, rfl, hT, hF, hS⟩ := hr_) | (refine ex6 h_2 ?_; clear h_2; rintro a f fs fv T t hr_; first | (refine and7 hr_ ?_; clear hr_; rintro pre mu₁ rfl rfl hT hF hS) | (refine and6 hr_ ?_; clear hr_; rintro pre mu₁ rfl rfl hT ⟨hF, hS⟩) | (refine and5 hr_ ?_; clear hr_; rintro pre mu₁ rfl rfl ⟨hT, hF, hS⟩) | (refine and4 hr_ ?_; clear hr_; rintro pre mu₁ rfl ⟨rfl, hT, hF, hS⟩) | (refine and3 hr_ ?_; clear hr_; rintro pre mu₁ ⟨rfl, rfl, hT, hF, hS⟩) | obtain ⟨pre, mu₁, rfl, rfl, hT, hF, hS⟩ := hr_) | (refine ex5 h_2 ?_; clear h_2; rintro a f fs fv T hr_; first | (refine and8 hr_ ?_; clear hr_; rintro t pre mu₁ rfl rfl hT hF hS) | (refine and7 hr_ ?_; clear hr_; rintro t pre mu₁ rfl rfl hT ⟨hF, hS⟩) | (refine and6 hr_ ?_; clear hr_; rintro t pre mu₁ rfl rfl ⟨hT, hF, hS⟩) | (refine and5 hr_ ?_; clear hr_; rintro t pre mu₁ rfl ⟨rfl, hT, hF, hS⟩) | (refine and4 hr_ ?_; clear hr_; rintro t pre mu₁ ⟨rfl, rfl, hT, hF, hS⟩) | (refine and3 hr_ ?_; clear hr_; rintro t pre ⟨mu₁, rfl, rfl, hT, hF, hS⟩) | obtain ⟨t, pre, mu₁, rfl, rfl, hT, hF, hS⟩ := hr_) | (refine ex4 h_2 ?_; clear h_2; rintro a f fs fv hr_; first | (refine and9 hr_ ?_; clear hr_; rintro T t pre mu₁ rfl rfl hT hF hS) | (refine and8 hr_ ?_; clear hr_; rintro T t pre mu₁ rfl rfl hT ⟨hF, hS⟩) | (refine and7 hr_ ?_; clear hr_; rintro T t pre mu₁ rfl rfl ⟨hT, hF, hS⟩) | (refine and6 hr_ ?_; clear hr_; rintro T t pre mu₁ rfl ⟨rfl, hT, hF, hS⟩) | (refine and5 hr_ ?_; clear hr_; rintro T t pre mu₁ ⟨rfl, rfl, hT, hF, hS⟩) | (refine and4 hr_ ?_; clear hr_; rintro T t pre ⟨mu₁, rfl, rfl, hT, hF, hS⟩) | (refine and3 hr_ ?_; clear hr_; rintro T t ⟨pre, mu₁, rfl, rfl, hT, hF, hS⟩) | obtain ⟨T, t, pre, mu₁, rfl, rfl, hT, hF, hS⟩ := hr_) | (refine ex3 h_2 ?_; clear h_2; rintro a f fs hr_; first | (refine and10 hr_ ?_; clear hr_; rintro fv T t pre mu₁ rfl rfl hT hF hS) | (refine and9 hr_ ?_; clear hr_; rintro fv T t pre mu₁ rfl rfl hT ⟨hF, hS⟩) | (refine and8 hr_ ?_; clear hr_; rintro fv T t pre mu₁ rfl rfl ⟨hT, hF, hS⟩) | (refine and7 hr_ ?_; clear hr_; rintro fv T t pre mu₁ rfl ⟨rfl, hT, hF, hS⟩) | (refine and6 hr_ ?_; clear hr_; rintro fv T t pre mu₁ ⟨rfl, rfl, hT, hF, hS⟩) | (refine and5 hr_ ?_; clear hr_; rintro fv T t pre ⟨mu₁, rfl, rfl, hT, hF, hS⟩) | (refine and4 hr_ ?_; clear hr_; rintro fv T t ⟨pre, mu₁, rfl, rfl, hT, hF, hS⟩) | (refine and3 hr_ ?_; clear hr_; rintro fv T ⟨t, pre, mu₁, rfl, rfl, hT, hF, hS⟩) | obtain ⟨fv, T, t, pre, mu₁, rfl, rfl, hT, hF, hS⟩ := hr_) | (refine ex2 h_2 ?_; clear h_2; rintro a f hr_; first | (refine and11 hr_ ?_; clear hr_; rintro fs fv T t pre mu₁ rfl rfl hT hF hS) | (refine and10 hr_ ?_; clear hr_; rintro fs fv T t pre mu₁ rfl rfl hT ⟨hF, hS⟩) | (refine and9 hr_ ?_; clear hr_; rintro fs fv T t pre mu₁ rfl rfl ⟨hT, hF, hS⟩) | (refine and8 hr_ ?_; clear hr_; rintro fs fv T t pre mu₁ rfl ⟨rfl, hT, hF, hS⟩) | (refine and7 hr_ ?_; clear hr_; rintro fs fv T t pre mu₁ ⟨rfl, rfl, hT, hF, hS⟩) | (refine and6 hr_ ?_; clear hr_; rintro fs fv T t pre ⟨mu₁, rfl, rfl, hT, hF, hS⟩) | (refine and5 hr_ ?_; clear hr_; rintro fs fv T t ⟨pre, mu₁, rfl, rfl, hT, hF, hS⟩) | (refine and4 hr_ ?_; clear hr_; rintro fs fv T ⟨t, pre, mu₁, rfl, rfl, hT, hF, hS⟩) | (refine and3 hr_ ?_; clear hr_; rintro fs fv ⟨T, t, pre, mu₁, rfl, rfl, hT, hF, hS⟩) | obtain ⟨fs, fv, T, t, pre, mu₁, rfl, rfl, hT, hF, hS⟩ := hr_) | (refine ex1 h_2 ?_; clear h_2; rintro a hr_; first | (refine and12 hr_ ?_; clear hr_; rintro f fs fv T t pre mu₁ rfl rfl hT hF hS) | (refine and11 hr_ ?_; clear hr_; rintro f fs fv T t pre mu₁ rfl rfl hT ⟨hF, hS⟩) | (refine and10 hr_ ?_; clear hr_; rintro f fs fv T t pre mu₁ rfl rfl ⟨hT, hF, hS⟩) | (refine and9 hr_ ?_; clear hr_; rintro f fs fv T t pre mu₁ rfl ⟨rfl, hT, hF, hS⟩) | (refine and8 hr_ ?_; clear hr_; rintro f fs fv T t pre mu₁ ⟨rfl, rfl, hT, hF, hS⟩) | (refine and7 hr_ ?_; clear hr_; rintro f fs fv T t pre ⟨mu₁, rfl, rfl, hT, hF, hS⟩) | (refine and6 hr_ ?_; clear hr_; rintro f fs fv T t ⟨pre, mu₁, rfl, rfl, hT, hF, hS⟩) | (refine and5 hr_ ?_; clear hr_; rintro f fs fv T ⟨t, pre, mu₁, rfl, rfl, hT, hF, hS⟩) | (refine and4 hr_ ?_; clear hr_; rintro f fs fv ⟨T, t, pre, mu₁, rfl, rfl, hT, hF, hS⟩) | (refine and3 hr_ ?_; clear hr_; rintro f fs ⟨fv, T, t, pre, mu₁, rfl, rfl, hT, hF, hS⟩) | obtain ⟨f, fs, fv, T, t, pre, mu₁, rfl, rfl, hT, hF, hS⟩ := hr_) | (first | (refine and13 h_2 ?_; clear h_2; rintro a f fs fv T t pre mu₁ rfl rfl hT hF hS) | (refine and12 h_2 ?_; clear h_2; rintro a f fs fv T t pre mu₁ rfl rfl hT ⟨hF, hS⟩) | (refine and11 h_2 ?_; clear h_2; rintro a f fs fv T t pre mu₁ rfl rfl ⟨hT, hF, hS⟩) | (refine and10 h_2 ?_; clear h_2; rintro a f fs fv T t pre mu₁ rfl ⟨rfl, hT, hF, hS⟩) | (refine and9 h_2 ?_; clear h_2; rintro a f fs fv T t pre mu₁ ⟨rfl, rfl, hT, hF, hS⟩) | (refine and8 h_2 ?_; clear h_2; rintro a f fs fv T t pre ⟨mu₁, rfl, rfl, hT, hF, hS⟩) | (refine and7 h_2 ?_; clear h_2; rintro a f fs fv T t ⟨pre, mu₁, rfl, rfl, hT, hF, hS⟩) | (refine and6 h_2 ?_; clear h_2; rintro a f fs fv T ⟨t, pre, mu₁, rfl, rfl, hT, hF, hS⟩) | (refine and5 h_2 ?_; clear h_2; rintro a f fs fv ⟨T, t, pre, mu₁, rfl, rfl, hT, hF, hS⟩) | (refine and4 h_2 ?_; clear h_2; rintro a f fs ⟨fv, T, t, pre, mu₁, rfl, rfl, hT, hF, hS⟩) | (refine and3 h_2 ?_; clear h_2; rintro a f ⟨fs, fv, T, t, pre, mu₁, rfl, rfl, hT, hF, hS⟩) | obtain ⟨a, f, fs, fv, T, t, pre, mu₁, rfl, rfl, hT, hF, hS⟩ := h_2)
  refine k_ ?_
  clear k_ X_
  obtain ⟨M1, hM1⟩ : ∃ M1 : Led, M1 = (a, .tup [.ref T.x, .ref f]) :: (treeLed T ++ (pre ++ (f, .lst fv) :: mu₁)) := ⟨_, rfl⟩
  have a1 : (a, Sh.tup [.ref T.x, .ref f]) ∈ M1 := by rw [hM1]; exact .head _
  have a2 : ∀ p ∈ treeLed T, p ∈ M1 := fun p hp => by rw [hM1]; exact .tail _ (List.mem_append_left _ hp)
  have a3 : (f, Sh.lst fv) ∈ M1 := by rw [hM1]; exact .tail _ (List.mem_append_right _ (List.mem_append_right _ (.head _)))
  rw [← hM1]
  refine w_asTup (kn_mu (List.mem_append_left _ a1)) ?_ (by rfl) (by rfl) hh
  walk_at "ms"
  refine w_storeC (a := L + 2) (by with_unfolding_all rfl) (Up.appR (Up.tail Up.head) M1) ?_
  walk_at "ms"
  refine w_call (mu := []) _ (fun g' h1 h2 => scopes_ok G hA.le (h1 _ _ hg) (hr.mono (RowV.mono h1)) (fun q hq => Nat.le_trans (hR q hq).keys.2.1 (by decide)) (by omega)) ?_
  rintro _ _ h_2
  refine hide ?_
  intro X_ k_
  first | (refine ex3 h_2 ?_; clear h_2; rintro sb ds sacc hr_; first | (refine and3 hr_ ?_; clear hr_; rintro rfl rfl hD) | obtain ⟨rfl, rfl, hD⟩ := hr_) | (refine ex2 h_2 ?_; clear h_2; rintro sb ds hr_; first | (refine and4 hr_ ?_; clear hr_; rintro sacc rfl rfl hD) | (refine and3 hr_ ?_; clear hr_; rintro sacc rfl ⟨rfl, hD⟩) | obtain ⟨sacc, rfl, rfl, hD⟩ := hr_) | (refine ex1 h_2 ?_; clear h_2; rintro sb hr_; first | (refine and5 hr_ ?_; clear hr_; rintro ds sacc rfl rfl hD) | (refine and4 hr_ ?_; clear hr_; rintro ds sacc rfl ⟨rfl, hD⟩) | (refine and3 hr_ ?_; clear hr_; rintro ds sacc ⟨rfl, rfl, hD⟩) | obtain ⟨ds, sacc, rfl, rfl, hD⟩ := hr_) | (first | (refine and6 h_2 ?_; clear h_2; rintro sb ds sacc rfl rfl hD) | (refine and5 h_2 ?_; clear h_2; rintro sb ds sacc rfl ⟨rfl, hD⟩) | (refine and4 h_2 ?_; clear h_2; rintro sb ds sacc ⟨rfl, rfl, hD⟩) | (refine and3 h_2 ?_; clear h_2; rintro sb ds ⟨sacc, rfl, rfl, hD⟩) | obtain ⟨sb, ds, sacc, rfl, rfl, hD⟩ := h_2)
  refine k_ ?_
  clear k_ X_
  walk_at "ms"
  refine w_storeC (a := L + 3) (by with_unfolding_all rfl) (Up.appR (Up.appR Up.head M1) ((sb, .lst ds) :: sacc)) ?_
  refine Seq.next ?_
  obtain ⟨M2, hM2⟩ : ∃ M2 : Led, M2 = ((sb, .lst ds) :: sacc) ++ (M1 ++ [(L + 3, .cell (some (.ref sb))), (L + 2, .cell (some (.ref T.x))), (L + 1, .cell (some (.ref rs)))]) := ⟨_, rfl⟩
  have b1 : (sb, Sh.lst ds) ∈ M2 := by rw [hM2]; exact .head _
  have b2 : ∀ p ∈ sacc, p ∈ M2 := fun p hp => by rw [hM2]; exact .tail _ (List.mem_append_left _ hp)
  have b3 : ∀ p ∈ M1, p ∈ M2 := fun p hp => by rw [hM2]; exact List.mem_append_right _ (List.mem_append_left _ hp)
  have d1 : (L + 3, Sh.cell (some (.ref sb))) ∈ M2 := by rw [hM2]; exact List.mem_append_right _ (List.mem_append_right _ (.head _))
  have d2 : (L + 2, Sh.cell (some (.ref T.x))) ∈ M2 := by rw [hM2]; exact List.mem_append_right _ (List.mem_append_right _ (.tail _ (.head _)))
  have d3 : (L + 1, Sh.cell (some (.ref rs))) ∈ M2 := by rw [hM2]; exact List.mem_append_right _ (List.mem_append_right _ (.tail _ (.tail _ (.head _))))
  show W _ _ _ ⟨_, ((sb, .lst ds) :: sacc) ++ (M1 ++ [(L + 3, .cell (some (.ref sb))), (L + 2, .cell (some (.ref T.x))), (L + 1, .cell (some (.ref rs)))])⟩
  rw [← hM2]
  refine w_pad ?_
  refine w_freeze (fr := M2) (mu := []) ?_
  have kT : inG (ext c.g M2) (treeLed T) := fun p hp => .inr (b3 p (a2 p hp))
  have k1 := tg1 kT
  have k2 := tg2 kT
  have kf : ext c.g M2 f (.lst fv) := .inr (b3 _ a3)
  have ksb : ext c.g M2 sb (.lst ds) := .inr b1
  have kc1 : ext c.g M2 (L + 3) (.cell (some (.ref sb))) := .inr d1
  have kc2 : ext c.g M2 (L + 2) (.cell (some (.ref T.x))) := .inr d2
  have kc3 : ext c.g M2 (L + 1) (.cell (some (.ref rs))) := .inr d3
  have krs : ext c.g M2 rs (.lst vs) := .inl hg
  have hr2 : Each (RowV (ext c.g M2)) rows vs := hr.mono (RowV.mono fun _ _ h => .inl h)
  have hD2 : Each (DictV (ext c.g M2)) (scopesOf rows) ds := hD.mono (DictV.mono fun _ _ h => .inr (b2 _ h))
  have hsl : (scopesOf rows).length = rows.length := by unfold scopesOf; rw [List.length_map, List.length_range]
  obtain ⟨fl, hfl⟩ : ∃ fl : List Str, fl = (List.range rows.length).map (lawLaid rows (scopesOf rows)) := ⟨_, rfl⟩
  have hfll : fl.length = rows.length := by rw [hfl, List.length_map, List.length_range]
  have hfla : ∀ i, i < rows.length → fl[i]? = some (lawLaid rows (scopesOf rows) i) := fun i hi => by rw [hfl, List.getElem?_map, List.getElem?_range hi]; rfl
  walk_at "ms"
  refine w_assignComp (cl := [("scopes", L + 3), ("rows", L + 1)]) ?_ (by rfl) (by rfl) (by decide) (by rfl) (by decide +kernel)
  walk_at "ms"
  refine w_lenLst (.inl krs) (by rw [sizeLine_eq]; omega) fun _ => ?_
  walk_at "ms"
  refine w_range1 fun rg t1 t2 t3 => ?_
  refine ⟨[(rg, .obj (rangeObj vs.length t1 t2 t3))], _, [], vs.length, fun i v => ∃ t, v = .int (i : Int) t, fun i ys mu => mu = [] ∧ Each SV (fl.take i) ys, rfl, src_range hh (.inr (.head _)) (by omega), ⟨rfl, trivial⟩, ?turn, ?len, ?fin⟩
  case len =>
    rintro i ys mu ⟨rfl, hE⟩ hi
    have e1 := hE.len
    have e3 : (fl.take i).length ≤ fl.length := List.length_take_le' _ _
    rw [sizeLine_eq]
    omega
  case turn =>
    rintro i v ys mu m0 L' g' hi ⟨ti, rfl⟩ ⟨rfl, hE⟩ hg'
    have hi' : i < rows.length := by omega
    have krs' := hg' _ _ (.inl krs)
    have ksb' := hg' _ _ (.inl ksb)
    have kc1' := hg' _ _ (.inl kc1)
    have kc3' := hg' _ _ (.inl kc3)
    walk_at "ms"
    refine w_callPure _ (fun g'' h1 h2 => laid_ok G hA.le (h1 _ _ krs') (hr2.mono (RowV.mono fun _ _ h => h1 _ _ (hg' _ _ (.inl h)))) (h1 _ _ ksb') (hD2.mono (DictV.mono fun _ _ h => h1 _ _ (hg' _ _ (.inl h)))) hsl.symm (by omega) (by omega) (fun i r sc h1 h2 => tagB_of hR h1 h2) (fun q hq => (hR q hq).text)) ?_
    rintro _ ⟨tl, rfl⟩
    refine ⟨rfl, ?_⟩
    rw [List.take_add_one, hfla i hi']
    exact hE.snoc ⟨_, rfl⟩
  case fin =>
    rintro D ys mu ⟨rfl, hE⟩ g' hg'
    rw [← hvl, ← hfll, List.take_length] at hE
    walk_at "ms"
    dsimp only
    have hfs := steps_len hS
    have hfv := hF.len
    refine w_comp (cl := [("tree", L + 2)]) ?_ (by rfl) (by decide) (by rfl) (by decide +kernel)
    walk_at "ms"
    refine ⟨[(rg, .obj (rangeObj vs.length t1 t2 t3))] ++ [(D, .lst ys)], _, [], fv.length, fun i v => fv[i]? = some v, fun i ys mu => mu = [] ∧ Each SV (fl.take i) ys, by rw [List.append_nil], src_lst hh (.inl kf) fun _ => dr_name, ⟨rfl, trivial⟩, ?turn2, ?len2, ?fin2⟩
    case len2 =>
      rintro i ys mu ⟨rfl, hE⟩ hi
      have e1 := hE.len
      have e3 : (fl.take i).length ≤ fl.length := List.length_take_le' _ _
      rw [sizeLine_eq]
      omega
    case turn2 =>
      rintro i v ys' mu m0 L' g'' hi hv ⟨rfl, hE2⟩ hg''
      have hi' : i < rows.length := by omega
      refine hide ?_
      intro X_ k_
      first | (refine ex3 (hF.get' hv) ?_; rintro e he te rfl) | (refine ex2 (hF.get' hv) ?_; rintro e he hr_; first | obtain ⟨te, rfl⟩ := hr_) | (refine ex1 (hF.get' hv) ?_; rintro e hr_; first | (refine and3 hr_ ?_; clear hr_; rintro he te rfl) | obtain ⟨he, te, rfl⟩ := hr_) | (first | (refine and4 (hF.get' hv) ?_; rintro e he te rfl) | (refine and3 (hF.get' hv) ?_; rintro e he ⟨te, rfl⟩) | obtain ⟨e, he, te, rfl⟩ := (hF.get' hv))
      refine k_ ?_
      clear k_ X_
      refine hide ?_
      intro X_ k_
      first | (refine ex3 (forms_law hS hR hz (List.getElem?_eq_getElem hi') he) ?_; rintro path uss q1 q2) | (refine ex2 (forms_law hS hR hz (List.getElem?_eq_getElem hi') he) ?_; rintro path uss hr_; first | obtain ⟨q1, q2⟩ := hr_) | (refine ex1 (forms_law hS hR hz (List.getElem?_eq_getElem hi') he) ?_; rintro path hr_; first | (refine and3 hr_ ?_; clear hr_; rintro uss q1 q2) | obtain ⟨uss, q1, q2⟩ := hr_) | (first | (refine and4 (forms_law hS hR hz (List.getElem?_eq_getElem hi') he) ?_; rintro path uss q1 q2) | (refine and3 (forms_law hS hR hz (List.getElem?_eq_getElem hi') he) ?_; rintro path uss ⟨q1, q2⟩) | obtain ⟨path, uss, q1, q2⟩ := (forms_law hS hR hz (List.getElem?_eq_getElem hi') he))
      refine k_ ?_
      clear k_ X_
      have kT' : inG g'' (treeLed T) := fun p hp => hg'' _ _ (.inl (kT p hp))
      have kc2' := hg'' _ _ (.inl kc2)
      walk_at "ms"
      refine w_callPure _ (fun g'' h1 h2 => canonEl_ok G hA.le hT (kT'.mono h1) q1) ?_
      rintro _ h_1
      refine hide ?_
      intro X_ k_
      first | (refine ex3 h_1 ?_; clear h_1; rintro o ho to rfl) | (refine ex2 h_1 ?_; clear h_1; rintro o ho hr_; first | obtain ⟨to, rfl⟩ := hr_) | (refine ex1 h_1 ?_; clear h_1; rintro o hr_; first | (refine and3 hr_ ?_; clear hr_; rintro ho to rfl) | obtain ⟨ho, to, rfl⟩ := hr_) | (first | (refine and4 h_1 ?_; clear h_1; rintro o ho to rfl) | (refine and3 h_1 ?_; clear h_1; rintro o ho ⟨to, rfl⟩) | obtain ⟨o, ho, to, rfl⟩ := h_1)
      refine k_ ?_
      clear k_ X_
      have ho' := q2 o ho
      subst ho'
      refine ⟨rfl, ?_⟩
      rw [List.take_add_one, hfla i hi']
      exact hE2.snoc ⟨_, rfl⟩
    case fin2 =>
      rintro D2 ys2 mu ⟨rfl, hE2⟩
      rw [← hfv, hfs, ← hfll, List.take_length] at hE2
      obtain ⟨l1, rfl, e1⟩ := strs_of hE
      obtain ⟨l2, rfl, e2⟩ := strs_of hE2
      walk_at "ms"
      refine w_neStrs hA (xs := l2) (ys := l1) (kn_mu (List.mem_append_right _ (.head _))) (kn_mu (.tail _ (.head _))) (by
        have := congrArg List.length (e2.trans e1.symm)
        rwa [List.length_map, List.length_map] at this) (e2.trans e1.symm) ?_
      walk_at "ms"
      cases rows with
      | nil => exact absurd rfl hne
      | cons r0 rest =>
        refine hide ?_
        intro X_ k_
        first | (refine ex5 (parent_law hS) ?_; rintro e0 fs' nr hfe hnr hpa) | (refine ex4 (parent_law hS) ?_; rintro e0 fs' nr hfe hr_; first | obtain ⟨hnr, hpa⟩ := hr_) | (refine ex3 (parent_law hS) ?_; rintro e0 fs' nr hr_; first | (refine and3 hr_ ?_; clear hr_; rintro hfe hnr hpa) | obtain ⟨hfe, hnr, hpa⟩ := hr_) | (refine ex2 (parent_law hS) ?_; rintro e0 fs' hr_; first | (refine and4 hr_ ?_; clear hr_; rintro nr hfe hnr hpa) | (refine and3 hr_ ?_; clear hr_; rintro nr hfe ⟨hnr, hpa⟩) | obtain ⟨nr, hfe, hnr, hpa⟩ := hr_) | (refine ex1 (parent_law hS) ?_; rintro e0 hr_; first | (refine and5 hr_ ?_; clear hr_; rintro fs' nr hfe hnr hpa) | (refine and4 hr_ ?_; clear hr_; rintro fs' nr hfe ⟨hnr, hpa⟩) | (refine and3 hr_ ?_; clear hr_; rintro fs' nr ⟨hfe, hnr, hpa⟩) | obtain ⟨fs', nr, hfe, hnr, hpa⟩ := hr_) | (first | (refine and6 (parent_law hS) ?_; rintro e0 fs' nr hfe hnr hpa) | (refine and5 (parent_law hS) ?_; rintro e0 fs' nr hfe ⟨hnr, hpa⟩) | (refine and4 (parent_law hS) ?_; rintro e0 fs' nr ⟨hfe, hnr, hpa⟩) | (refine and3 (parent_law hS) ?_; rintro e0 fs' ⟨nr, hfe, hnr, hpa⟩) | obtain ⟨e0, fs', nr, hfe, hnr, hpa⟩ := (parent_law hS))
        refine k_ ?_
        clear k_ X_
        subst hfe
        refine hide ?_
        intro X_ k_
        first | (refine ex2 (Each.inv hF) ?_; rintro fv0 fvr hr_; first | (refine and3 hr_ ?_; clear hr_; rintro rfl ⟨te0, rfl⟩ _) | obtain ⟨rfl, ⟨te0, rfl⟩, _⟩ := hr_) | (refine ex1 (Each.inv hF) ?_; rintro fv0 hr_; first | (refine and4 hr_ ?_; clear hr_; rintro fvr rfl ⟨te0, rfl⟩ _) | (refine and3 hr_ ?_; clear hr_; rintro fvr rfl ⟨⟨te0, rfl⟩, _⟩) | obtain ⟨fvr, rfl, ⟨te0, rfl⟩, _⟩ := hr_) | (first | (refine and5 (Each.inv hF) ?_; rintro fv0 fvr rfl ⟨te0, rfl⟩ _) | (refine and4 (Each.inv hF) ?_; rintro fv0 fvr rfl ⟨⟨te0, rfl⟩, _⟩) | (refine and3 (Each.inv hF) ?_; rintro fv0 fvr ⟨rfl, ⟨te0, rfl⟩, _⟩) | obtain ⟨fv0, fvr, rfl, ⟨te0, rfl⟩, _⟩ := (Each.inv hF))
        refine k_ ?_
        clear k_ X_
        have hroot := root_law hS
        refine hide ?_
        intro X_ k_
        first | (refine ex3 (forms_law hS hR hz (i := 0) (r := r0) (e := e0) rfl rfl) ?_; rintro path uss q1 q2) | (refine ex2 (forms_law hS hR hz (i := 0) (r := r0) (e := e0) rfl rfl) ?_; rintro path uss hr_; first | obtain ⟨q1, q2⟩ := hr_) | (refine ex1 (forms_law hS hR hz (i := 0) (r := r0) (e := e0) rfl rfl) ?_; rintro path hr_; first | (refine and3 hr_ ?_; clear hr_; rintro uss q1 q2) | obtain ⟨uss, q1, q2⟩ := hr_) | (first | (refine and4 (forms_law hS hR hz (i := 0) (r := r0) (e := e0) rfl rfl) ?_; rintro path uss q1 q2) | (refine and3 (forms_law hS hR hz (i := 0) (r := r0) (e := e0) rfl rfl) ?_; rintro path uss ⟨q1, q2⟩) | obtain ⟨path, uss, q1, q2⟩ := (forms_law hS hR hz (i := 0) (r := r0) (e := e0) rfl rfl))
        refine k_ ?_
        clear k_ X_
        obtain ⟨⟨s0, ts0⟩, l1', rfl⟩ : ∃ p l1', l1 = p :: l1' := by
          cases l1 with
          | nil => rw [← e1] at hfll; simp at hfll
          | cons p l => exact ⟨p, l, rfl⟩
        have hs0 : s0 = lawLaid (r0 :: rest) (scopesOf (r0 :: rest)) 0 := by
          have h1 := hfla 0 (by simp)
          rw [← e1] at h1
          simpa using h1
        walk_at "mmeth"
        walk_at "ms"
        refine w_itemLst (.inl kf) (by decide) rfl (by rw [sizeLine_eq]; omega) ?_ sub_int
        walk_at "ms"
        refine w_callPure _ (fun g'' h1 h2 => parent_ok G hA.le hT (kT.mono h1) hnr) ?_
        rw [hpa]
        rintro _ ⟨tp, rfl⟩
        walk_at "ms"
        refine w_callPure _ (fun g'' h1 h2 => canonRoot_ok G hA.le hT (kT.mono h1) q1 hroot rfl rfl) ?_
        rintro _ h_1
        refine hide ?_
        intro X_ k_
        first | (refine ex3 h_1 ?_; clear h_1; rintro o ho to rfl) | (refine ex2 h_1 ?_; clear h_1; rintro o ho hr_; first | obtain ⟨to, rfl⟩ := hr_) | (refine ex1 h_1 ?_; clear h_1; rintro o hr_; first | (refine and3 hr_ ?_; clear hr_; rintro ho to rfl) | obtain ⟨ho, to, rfl⟩ := hr_) | (first | (refine and4 h_1 ?_; clear h_1; rintro o ho to rfl) | (refine and3 h_1 ?_; clear h_1; rintro o ho ⟨to, rfl⟩) | obtain ⟨o, ho, to, rfl⟩ := h_1)
        refine k_ ?_
        clear k_ X_
        have ho' := q2 o ho
        subst ho'
        walk_at "ms"
        refine w_itemLst (vs := strValues ((s0, ts0) :: l1')) (kn_mu (.tail _ (.head _))) (by decide) rfl (by
          have h1 := congrArg List.length e1
          rw [List.length_map] at h1
          unfold strValues
          rw [List.length_map, sizeLine_eq]
          omega) ?_ sub_int
        refine w_eqStr ?_
        show Value.bool (lawLaid (r0 :: rest) (scopesOf (r0 :: rest)) 0 == s0) = .bool true
        rw [hs0]
        exact congrArg Value.bool (beq_self_eq_true _)
end
end Mine
end -- F25

section -- P5
open PySem PySem.W PySem.Calls PyProof.Rows PySem.Builtin PySem.Spec
namespace Mine
section
/-! the fixed tree -/
noncomputable def fxR : List Row := [⟨"e", [("r", "a"), ("q", "b")], [], ""⟩, ⟨"c", [("q", "b")], [], ""⟩]
theorem fx_b : ∀ r ∈ fxR, RowB r := by
  intro r hr
  have h' : r = ⟨"e", [("r", "a"), ("q", "b")], [], ""⟩ ∨ r = ⟨"c", [("q", "b")], [], ""⟩ := by simpa [fxR] using hr
  rcases h' with rfl | rfl
  · exact ⟨by decide +kernel, by decide +kernel, List.nodup_nil, fun _ h => (nomatch h), by decide, by decide⟩
  · exact ⟨by decide +kernel, by decide +kernel, List.nodup_nil, fun _ h => (nomatch h), by decide, by decide⟩
noncomputable def fxE (lc : Str) (as : List Nat) : NR := elRow 0 "e" lc [2, 3] as [4]
noncomputable def fxC (lc : Str) : NR := elRow 1 "c" lc [5] [] []
noncomputable def fxT (lc lc' : Str) (as : List Nat) (m : List NR) : List NR := [rootNR [1], fxE lc as, nsRow 1 ("r", "a"), nsRow 1 ("q", "b"), fxC lc', nsRow 4 ("q", "b")] ++ m
theorem fx_steps {t : List NR} {fs : List Nat} (h : Steps [rootNR []] 0 fxR t fs) : ∃ lc lc', t = fxT lc lc' [] [] ∧ fs = [1, 4] := by
  obtain ⟨lc1, fs1, rfl, lc2, fs2, rfl, rfl, rfl⟩ := h
  exact ⟨lc1, lc2, by kernel_rfl, by kernel_rfl⟩
noncomputable def fxA1 : NR := nrOf "attribute" "q:m" "b" "m" "1" (some 1)
noncomputable def fxA2 : NR := nrOf "attribute" "r:n" "a" "n" "2" (some 1)
theorem fx_set1 {lc lc' : Str} : (fxT lc lc' [] [] ++ [fxA1]).set 1 { fxE lc [] with ats := (fxE lc []).ats ++ [(fxT lc lc' [] []).length] } = fxT lc lc' [6] [fxA1] := by kernel_rfl
theorem fx_set2 {lc lc' : Str} : (fxT lc lc' [6] [fxA1] ++ [fxA2]).set 1 { fxE lc [6] with ats := (fxE lc [6]).ats ++ [(fxT lc lc' [6] [fxA1]).length] } = fxT lc lc' [6, 7] [fxA1, fxA2] := by kernel_rfl
abbrev fxq1 : Str × Str := ("r", "a")
abbrev fxq2 : Str × Str := ("q", "b")
abbrev uss1 : List (List (Str × Str)) := [[], [fxq1, fxq2]]
abbrev uss2 : List (List (Str × Str)) := [[], [fxq1, fxq2], [fxq2]]
abbrev fxa1 : R4 := ("b", "m", "q:m", "1")
abbrev fxa2 : R4 := ("a", "n", "r:n", "2")
noncomputable def rk1 (r : R4) : Nat := if r.1 = "a" then 0 else 1
noncomputable def fxAs : List R4 := [fxa1, fxa2]
noncomputable def fxL1 : Lvl := ⟨1, "e", [fxq1, fxq2], fxAs, none⟩
noncomputable def fxL2 : Lvl := ⟨4, "c", [fxq2], [], none⟩
noncomputable def fxS (X : Str) : List (Str × Str) := [xm X, fxq1, fxq2]
theorem fx_scB {X : Str} : ScB (fxS X) := by
  refine ⟨by show 3 ≤ 20; decide, fun p hp => ?_, fun p u hu hne => ?_⟩
  · have h' : p = xm X ∨ p = fxq1 ∨ p = fxq2 := by simpa [fxS] using hp
    rcases h' with rfl | rfl | rfl
    · show (Str.ofString "xml").length ≤ 10
      decide +kernel
    · decide +kernel
    · decide +kernel
  · have h' : (p, u) = xm X ∨ (p, u) = fxq1 ∨ (p, u) = fxq2 := by simpa [fxS] using look_some_mem hu
    rcases h' with h | h | h <;> cases h
    · exact absurd rfl hne
    · decide +kernel
    · decide +kernel
theorem fx_as {r : R4} (h : r ∈ fxAs) : r = fxa1 ∨ r = fxa2 := by simpa [fxAs] using h
theorem fx_l1 {lc lc' : Str} : LvlOk rk1 (fxT lc lc' [6, 7] [fxA1, fxA2]) fxL1 [4] := by
  refine ⟨⟨_, rfl, rfl, rfl, rfl⟩, by decide +kernel, ⟨_, rfl, ⟨_, rfl, rfl, rfl⟩, ⟨_, rfl, rfl, rfl⟩, trivial⟩, by decide, ⟨_, rfl, ⟨_, rfl, rfl, rfl, rfl, rfl⟩, ⟨_, rfl, rfl, rfl, rfl, rfl⟩, trivial⟩, by decide, fun r hr => ?_, ⟨fun r hr => ?_, by decide +kernel, fun r hr r' hr' hne => ?_⟩, fun _ h => (nomatch h)⟩
  · rcases fx_as hr with rfl | rfl <;> exact ⟨by decide +kernel, by decide +kernel, by decide +kernel⟩
  · rcases fx_as hr with rfl | rfl <;> decide +kernel
  · rcases fx_as hr with rfl | rfl <;> rcases fx_as hr' with rfl | rfl
    · exact absurd rfl hne
    · decide +kernel
    · decide +kernel
    · exact absurd rfl hne
theorem fx_l2 {lc lc' : Str} : LvlOk rk1 (fxT lc lc' [6, 7] [fxA1, fxA2]) fxL2 [] := by
  refine ⟨⟨_, rfl, rfl, rfl, rfl⟩, by decide +kernel, ⟨_, rfl, ⟨_, rfl, rfl, rfl⟩, trivial⟩, by decide, ⟨_, rfl, trivial⟩, by decide, fun _ h => (nomatch h), ⟨fun _ h => (nomatch h), List.Pairwise.nil, fun _ h => (nomatch h)⟩, fun _ h => (nomatch h)⟩
theorem fx_n1 {X : Str} : foldSS uss1 [xm X] = fxS X := by kernel_rfl
theorem fx_n2 {X : Str} : foldSS uss2 [xm X] = fxS X := by kernel_rfl
theorem fx_n3 {X : Str} : nextSc (fxS X) [fxL2] = fxS X := by kernel_rfl
theorem fx_us {uss : List (List (Str × Str))} (h : uss = uss1 ∨ uss = uss2) : ∀ us ∈ uss, us.length ≤ 10 := by
  rcases h with rfl | rfl
  · decide
  · decide
theorem fx_top1 {lc lc' : Str} : FromTop rk1 (fxT lc lc' [6, 7] [fxA1, fxA2]) fxL1 [fxL2] [1, 0] uss1 := by
  refine ⟨⟨rfl, _, rfl, rfl, _, rfl, trivial⟩, ⟨⟨_, rfl, trivial⟩, ⟨_, rfl, ⟨_, rfl, rfl, rfl⟩, ⟨_, rfl, rfl, rfl⟩, trivial⟩, trivial⟩, by decide, fx_us (.inl rfl), fun X => ?_, by decide⟩
  rw [fx_n1]
  refine ⟨fx_scB, fx_l1, ?_⟩
  rw [fx_n3]
  exact ⟨fx_scB, fx_l2, trivial⟩
theorem fx_top2 {lc lc' : Str} : FromTop rk1 (fxT lc lc' [6, 7] [fxA1, fxA2]) fxL2 [] [4, 1, 0] uss2 := by
  refine ⟨⟨rfl, _, rfl, rfl, _, rfl, rfl, _, rfl, trivial⟩, ⟨⟨_, rfl, trivial⟩, ⟨_, rfl, ⟨_, rfl, rfl, rfl⟩, ⟨_, rfl, rfl, rfl⟩, trivial⟩, ⟨_, rfl, ⟨_, rfl, rfl, rfl⟩, trivial⟩, trivial⟩, by decide, fx_us (.inr rfl), fun X => ?_, by decide⟩
  rw [fx_n2]
  exact ⟨fx_scB, fx_l2, trivial⟩
theorem fx_ss {X : Str} {ss : List Str} (h1 : ss.Perm ((fxS X).map (·.1))) (h2 : sortedS ss = true) : ss = [Str.ofString "q", Str.ofString "r", Str.ofString "xml"] := by
  refine sorted_one h2 (by decide +kernel) (h1.trans ?_)
  show [Str.ofString "xml", Str.ofString "r", Str.ofString "q"].Perm _
  decide +kernel
theorem fx_out {out : List R4} (h1 : out.Perm fxAs) (h2 : (out.map rk1).Pairwise (· < ·)) : out = [fxa2, fxa1] := by
  refine rising_one (f := rk1) (fun x hx y hy e => ?_) h2 (by decide +kernel) (h1.trans (by unfold fxAs; exact List.Perm.swap _ _ _))
  have hx' := fx_as (h1.mem_iff.mp hx)
  have hy' : y = fxa1 ∨ y = fxa2 := by
    have h' : y = fxa2 ∨ y = fxa1 := by simpa using hy
    exact h'.symm
  rcases hx' with rfl | rfl <;> rcases hy' with rfl | rfl
  · rfl
  · exact absurd e (by decide +kernel)
  · exact absurd e (by decide +kernel)
  · rfl
theorem fx_inner {X : Str} {b : Str} (h : ElemOut rk1 (fxS X) (fxS X) [fxL2] b) : b = Str.ofString "<c></c>" := by
  obtain ⟨a, b, ⟨ss, out, h1, h2, h3, _, rfl⟩, hb, rfl⟩ := h
  have hb' : b = "" := hb
  subst hb'
  have hs := fx_ss h1 h2
  subst hs
  have ho : out = [] := List.Perm.eq_nil h3
  subst ho
  kernel_rfl
theorem fx_form1 {o : Str} (h : FormOut rk1 uss1 [fxL1, fxL2] o) : o = Str.ofString "<e xmlns:q=\"b\" xmlns:r=\"a\" r:n=\"2\" q:m=\"1\"><c></c></e>" := by
  obtain ⟨X, Y, h⟩ := h
  rw [fx_n1] at h
  obtain ⟨a, b, ⟨ss, out, h1, h2, h3, h4, rfl⟩, hb, rfl⟩ := h
  rw [fx_n3] at hb
  have hb' := fx_inner hb
  subst hb'
  have hs := fx_ss h1 h2
  subst hs
  have ho := fx_out h3 h4
  subst ho
  kernel_rfl
theorem fx_form2 {o : Str} (h : FormOut rk1 uss2 [fxL2] o) : o = Str.ofString "<c xmlns:q=\"b\" xmlns:r=\"a\"></c>" := by
  obtain ⟨X, Y, h⟩ := h
  rw [fx_n2] at h
  obtain ⟨a, b, ⟨ss, out, h1, h2, h3, h4, rfl⟩, hb, rfl⟩ := h
  have hb' : b = "" := hb
  subst hb'
  have hs := fx_ss h1 h2
  subst hs
  have ho : out = [] := List.Perm.eq_nil h3
  subst ho
  kernel_rfl
end
end Mine
end -- P5

section -- F26
open PySem PySem.W PySem.Calls PyProof.Rows PySem.Builtin
namespace Mine
section
variable {prog : Program} {w : World} {O : Heap} {A : Around} {P : Params} {mg mb : Str → Option Value} {g : Kn}

theorem perm_mid {α : Type} {a : α} {x y z : List α} : ((a :: (x ++ y)) ++ z).Perm ((a :: y) ++ (x ++ z)) := by
  refine List.Perm.cons _ ?_
  show ((x ++ y) ++ z).Perm (y ++ (x ++ z))
  rw [← List.append_assoc]
  exact List.Perm.append_right _ List.perm_append_comm

theorem law_ok (G : Gnd (hk.heap_1 P) O mg mb) (hA : Amb A 14) {sc : Addr} {vs : List Value} {ns : List Int} (hg : g sc (.seq vs)) (hi : IntsAre vs ns) (hz : vs.length ≤ 1000) :
    CallsV prog w O A (.ref 437) [.ref sc] g [] (fun v _ => v = .bool true) := by
  refine CallsV.fnV (n := 13) [("script", .ref sc)] (over "script" (.ref sc) fun _ => none) (fun L => [(L + 1, .cell none)]) G hA (by k_is) (by k_is) (fun _ _ => BindsTo.of_eq rfl) (by kernel_rfl) (by decide +kernel) (by kernel_rfl) (by intro L; kernel_rfl) ?_ (by rfl) (by rfl) (by rfl)
  intro L s env c hA G
  have hh : c.A.handled = none := hA.handled
  refine v_seq ?_
  refine v_assign ?_
  refine v_list ?_
  refine v_splCons ?_
  refine v_tuple ?_
  refine v_splCons ?_
  refine v_cStr fun t1 => ?_
  walk_at "ms"
  rename_i t2 t3 _ _ _ q1 t4 t5 _ _ _ q2 u1 a1 t6 r1 t7 t8 t9 _ _ _ q3 u2 a2 t10 r2 fx
  obtain ⟨fr0, hfr⟩ : ∃ fr0 : Led, fr0 = [(fx, .lst [.ref r1, .ref r2]), (r2, .tup [.str "c" t7, .ref u2, .ref a2, .str "" t10]), (a2, .lst []), (u2, .lst [.ref q3]), (q3, .tup [.str "q" t8, .str "b" t9]), (r1, .tup [.str "e" t1, .ref u1, .ref a1, .str "" t6]), (a1, .lst []), (u1, .lst [.ref q1, .ref q2]), (q2, .tup [.str "q" t4, .str "b" t5]), (q1, .tup [.str "r" t2, .str "a" t3])] := ⟨_, rfl⟩
  have kx : (fx, Sh.lst [.ref r1, .ref r2]) ∈ fr0 ∧ Each (RowV (inL fr0)) fxR [.ref r1, .ref r2] := by
    subst hfr
    refine ⟨.head _, ⟨r1, t1, u1, [.ref q1, .ref q2], a1, [], t6, rfl, ?_, ?_, ⟨⟨q1, t2, t3, rfl, ?_⟩, ⟨q2, t4, t5, rfl, ?_⟩, trivial⟩, ?_, trivial⟩, ⟨r2, t7, u2, [.ref q3], a2, [], t10, rfl, ?_, ?_, ⟨⟨q3, t8, t9, rfl, ?_⟩, trivial⟩, ?_, trivial⟩, trivial⟩
    all_goals walk_at "mmemr"
  show W _ _ _ ⟨_, [(fx, .lst [.ref r1, .ref r2]), (r2, .tup [.str "c" t7, .ref u2, .ref a2, .str "" t10]), (a2, .lst []), (u2, .lst [.ref q3]), (q3, .tup [.str "q" t8, .str "b" t9]), (r1, .tup [.str "e" t1, .ref u1, .ref a1, .str "" t6]), (a1, .lst []), (u1, .lst [.ref q1, .ref q2]), (q2, .tup [.str "q" t4, .str "b" t5]), (q1, .tup [.str "r" t2, .str "a" t3])] ++ [(L + 1, .cell none)]⟩
  rw [← hfr]
  refine w_freeze (fr := fr0) (mu := [(L + 1, .cell none)]) ?_
  have kfx : ext c.g fr0 fx (.lst [.ref r1, .ref r2]) := .inr kx.1
  have kR : Each (RowV (ext c.g fr0)) fxR [.ref r1, .ref r2] := kx.2.mono (RowV.mono fun _ _ h => .inr h)
  have hg1 : ext c.g fr0 sc (.seq vs) := .inl hg
  clear hfr kx
  refine w_assignTup ?_ (by rfl) (by rfl)
  walk_at "ms"
  refine w_call (mu := []) _ (fun g' h1 h2 => built_ok G hA.le (h1 _ _ kfx) (kR.mono (RowV.mono h1)) fx_b (by decide)) ?_
  rintro _ _ h_2
  refine hide ?_
  intro X_ k_
  first | (refine ex8 h_2 ?_; clear h_2; rintro a f fs fv T t pre mu₁ hr_; first | (refine and5 hr_ ?_; clear hr_; rintro rfl rfl hT hF hS) | (refine and4 hr_ ?_; clear hr_; rintro rfl rfl hT ⟨hF, hS⟩) | (refine and3 hr_ ?_; clear hr_; rintro rfl rfl ⟨hT, hF, hS⟩) | obtain ⟨rfl, rfl, hT, hF, hS⟩ := hr_) | (refine ex7 h_2 ?_; clear h_2; rintro a f fs fv T t pre hr_; first | (refine and6 hr_ ?_; clear hr_; rintro mu₁ rfl rfl hT hF hS) | (refine and5 hr_ ?_; clear hr_; rintro mu₁ rfl rfl hT ⟨hF, hS⟩) | (refine and4 hr_ ?_; clear hr_; rintro mu₁ rfl rfl ⟨hT, hF, hS⟩) | (refine and3 hr_ ?_; clear hr_; rintro mu₁ rfl ⟨rfl, hT, hF, hS⟩) | obtain ⟨mu₁, rfl, rfl, hT, hF, hS⟩ := hr_) | (refine ex6 h_2 ?_; clear h_2; rintro a f fs fv T t hr_; first | (refine and7 hr_ ?_; clear hr_; rintro pre mu₁ rfl rfl hT hF hS) | (refine and6 hr_ ?_; clear hr_; rintro pre mu₁ rfl rfl hT ⟨hF, hS⟩) | (refine and5 hr_ ?_; clear hr_; rintro pre mu₁ rfl rfl ⟨hT, hF, hS⟩) | (refine and4 hr_ ?_; clear hr_; rintro pre mu₁ rfl ⟨rfl, hT, hF, hS⟩) | (refine and3 hr_ ?_; clear hr_; rintro pre mu₁ ⟨rfl, rfl, hT, hF, hS⟩) | obtain ⟨pre, mu₁, rfl, rfl, hT, hF, hS⟩ := hr_) | (refine ex5 h_2 ?_; clear h_2; rintro a f fs fv T hr_; first | (refine and8 hr_ ?_; clear hr_; rintro t pre mu₁ rfl rfl hT hF hS) | (refine and7 hr_ ?_; clear hr_; rintro t pre mu₁ rfl rfl hT ⟨hF, hS⟩) | (refine and6 hr_ ?_; clear hr_; rintro t pre mu₁ rfl rfl ⟨hT, hF, hS⟩) | (refine and5 hr_ ?_; clear hr_; rintro t pre mu₁ rfl ⟨rfl, hT, hF, hS⟩) | (refine and4 hr_ ?_; clear hr_; rintro t pre mu₁ ⟨rfl, rfl, hT, hF, hS⟩) | (refine and3 hr_ ?_; clear hr_; rintro t pre ⟨mu₁, rfl, rfl, hT, hF, hS⟩) | obtain ⟨t, pre, mu₁, rfl, rfl, hT, hF, hS⟩ := hr_) | (refine ex4 h_2 ?_; clear h_2; rintro a f fs fv hr_; first | (refine and9 hr_ ?_; clear hr_; rintro T t pre mu₁ rfl rfl hT hF hS) | (refine and8 hr_ ?_; clear hr_; rintro T t pre mu₁ rfl rfl hT ⟨hF, hS⟩) | (refine and7 hr_ ?_; clear hr_; rintro T t pre mu₁ rfl rfl ⟨hT, hF, hS⟩) | (refine and6 hr_ ?_; clear hr_; rintro T t pre mu₁ rfl ⟨rfl, hT, hF, hS⟩) | (refine and5 hr_ ?_; clear hr_; rintro T t pre mu₁ ⟨rfl, rfl, hT, hF, hS⟩) | (refine and4 hr_ ?_; clear hr_; rintro T t pre ⟨mu₁, rfl, rfl, hT, hF, hS⟩) | (refine and3 hr_ ?_; clear hr_; rintro T t ⟨pre, mu₁, rfl, rfl, hT, hF, hS⟩) | obtain ⟨T, t, pre, mu₁, rfl, rfl, hT, hF, hS⟩ := hr_) | (refine ex3 h_2 ?_; clear h_2; rintro a f fs hr_; first | (refine and10 hr_ ?_; clear hr_; rintro fv T t pre mu₁ rfl rfl hT hF hS) | (refine and9 hr_ ?_; clear hr_; rintro fv T t pre mu₁ rfl rfl hT ⟨hF, hS⟩) | (refine and8 hr_ ?_; clear hr_; rintro fv T t pre mu₁ rfl rfl ⟨hT, hF, hS⟩) | (refine and7 hr_ ?_; clear hr_; rintro fv T t pre mu₁ rfl ⟨rfl, hT, hF, hS⟩) | (refine and6 hr_ ?_; clear hr_; rintro fv T t pre mu₁ ⟨rfl, rfl, hT, hF, hS⟩) | (refine and5 hr_ ?_; clear hr_; rintro fv T t pre ⟨mu₁, rfl, rfl, hT, hF, hS⟩) | (refine and4 hr_ ?_; clear hr_; rintro fv T t ⟨pre, mu₁, rfl, rfl, hT, hF, hS⟩) | (refine and3 hr_ ?_; clear hr_; rintro fv T ⟨t, pre, mu₁, rfl, rfl, hT, hF, hS⟩) | obtain ⟨fv, T, t, pre, mu₁, rfl, rfl, hT, hF, hS⟩ := hr_) | (refine ex2 h_2 ?_; clear h_2; rintro a f hr_; first | (refine and11 hr_ ?_; clear hr_; rintro fs fv T t pre mu₁ rfl rfl hT hF hS) | (refine and10 hr_ ?_; clear hr_; rintro fs fv T t pre mu₁ rfl rfl hT ⟨hF, hS⟩) | (refine and9 hr_ ?_; clear hr_; rintro fs fv T t pre mu₁ rfl rfl ⟨hT, hF, hS⟩) | (refine and8 hr_ ?_; clear hr_; rintro fs fv T t pre mu₁ rfl ⟨rfl, hT, hF, hS⟩) | (refine and7 hr_ ?_; clear hr_; rintro fs fv T t pre mu₁ ⟨rfl, rfl, hT, hF, hS⟩) | (refine and6 hr_ ?_; clear hr_; rintro fs fv T t pre ⟨mu₁, rfl, rfl, hT, hF, hS⟩) | (refine and5 hr_ ?_; clear hr_; rintro fs fv T t ⟨pre, mu₁, rfl, rfl, hT, hF, hS⟩) | (refine and4 hr_ ?_; clear hr_; rintro fs fv T ⟨t, pre, mu₁, rfl, rfl, hT, hF, hS⟩) | (refine and3 hr_ ?_; clear hr_; rintro fs fv ⟨T, t, pre, mu₁, rfl, rfl, hT, hF, hS⟩) | obtain ⟨fs, fv, T, t, pre, mu₁, rfl, rfl, hT, hF, hS⟩ := hr_) | (refine ex1 h_2 ?_; clear h_2; rintro a hr_; first | (refine and12 hr_ ?_; clear hr_; rintro f fs fv T t pre mu₁ rfl rfl hT hF hS) | (refine and11 hr_ ?_; clear hr_; rintro f fs fv T t pre mu₁ rfl rfl hT ⟨hF, hS⟩) | (refine and10 hr_ ?_; clear hr_; rintro f fs fv T t pre mu₁ rfl rfl ⟨hT, hF, hS⟩) | (refine and9 hr_ ?_; clear hr_; rintro f fs fv T t pre mu₁ rfl ⟨rfl, hT, hF, hS⟩) | (refine and8 hr_ ?_; clear hr_; rintro f fs fv T t pre mu₁ ⟨rfl, rfl, hT, hF, hS⟩) | (refine and7 hr_ ?_; clear hr_; rintro f fs fv T t pre ⟨mu₁, rfl, rfl, hT, hF, hS⟩) | (refine and6 hr_ ?_; clear hr_; rintro f fs fv T t ⟨pre, mu₁, rfl, rfl, hT, hF, hS⟩) | (refine and5 hr_ ?_; clear hr_; rintro f fs fv T ⟨t, pre, mu₁, rfl, rfl, hT, hF, hS⟩) | (refine and4 hr_ ?_; clear hr_; rintro f fs fv ⟨T, t, pre, mu₁, rfl, rfl, hT, hF, hS⟩) | (refine and3 hr_ ?_; clear hr_; rintro f fs ⟨fv, T, t, pre, mu₁, rfl, rfl, hT, hF, hS⟩) | obtain ⟨f, fs, fv, T, t, pre, mu₁, rfl, rfl, hT, hF, hS⟩ := hr_) | (first | (refine and13 h_2 ?_; clear h_2; rintro a f fs fv T t pre mu₁ rfl rfl hT hF hS) | (refine and12 h_2 ?_; clear h_2; rintro a f fs fv T t pre mu₁ rfl rfl hT ⟨hF, hS⟩) | (refine and11 h_2 ?_; clear h_2; rintro a f fs fv T t pre mu₁ rfl rfl ⟨hT, hF, hS⟩) | (refine and10 h_2 ?_; clear h_2; rintro a f fs fv T t pre mu₁ rfl ⟨rfl, hT, hF, hS⟩) | (refine and9 h_2 ?_; clear h_2; rintro a f fs fv T t pre mu₁ ⟨rfl, rfl, hT, hF, hS⟩) | (refine and8 h_2 ?_; clear h_2; rintro a f fs fv T t pre ⟨mu₁, rfl, rfl, hT, hF, hS⟩) | (refine and7 h_2 ?_; clear h_2; rintro a f fs fv T t ⟨pre, mu₁, rfl, rfl, hT, hF, hS⟩) | (refine and6 h_2 ?_; clear h_2; rintro a f fs fv T ⟨t, pre, mu₁, rfl, rfl, hT, hF, hS⟩) | (refine and5 h_2 ?_; clear h_2; rintro a f fs fv ⟨T, t, pre, mu₁, rfl, rfl, hT, hF, hS⟩) | (refine and4 h_2 ?_; clear h_2; rintro a f fs ⟨fv, T, t, pre, mu₁, rfl, rfl, hT, hF, hS⟩) | (refine and3 h_2 ?_; clear h_2; rintro a f ⟨fs, fv, T, t, pre, mu₁, rfl, rfl, hT, hF, hS⟩) | obtain ⟨a, f, fs, fv, T, t, pre, mu₁, rfl, rfl, hT, hF, hS⟩ := h_2)
  refine k_ ?_
  clear k_ X_
  refine hide ?_
  intro X_ k_
  first | (refine ex2 (fx_steps hS) ?_; rintro lc lc' hr_; first | obtain ⟨rfl, rfl⟩ := hr_) | (refine ex1 (fx_steps hS) ?_; rintro lc hr_; first | (refine and3 hr_ ?_; clear hr_; rintro lc' rfl rfl) | obtain ⟨lc', rfl, rfl⟩ := hr_) | (first | (refine and4 (fx_steps hS) ?_; rintro lc lc' rfl rfl) | (refine and3 (fx_steps hS) ?_; rintro lc lc' ⟨rfl, rfl⟩) | obtain ⟨lc, lc', rfl, rfl⟩ := (fx_steps hS))
  refine k_ ?_
  clear k_ X_
  clear hS
  refine hide ?_
  intro X_ k_
  first | (refine ex2 (Each.inv hF) ?_; rintro fv1 fvr hr_; first | (refine and3 hr_ ?_; clear hr_; rintro rfl ⟨te1, rfl⟩ hF1) | obtain ⟨rfl, ⟨te1, rfl⟩, hF1⟩ := hr_) | (refine ex1 (Each.inv hF) ?_; rintro fv1 hr_; first | (refine and4 hr_ ?_; clear hr_; rintro fvr rfl ⟨te1, rfl⟩ hF1) | (refine and3 hr_ ?_; clear hr_; rintro fvr rfl ⟨⟨te1, rfl⟩, hF1⟩) | obtain ⟨fvr, rfl, ⟨te1, rfl⟩, hF1⟩ := hr_) | (first | (refine and5 (Each.inv hF) ?_; rintro fv1 fvr rfl ⟨te1, rfl⟩ hF1) | (refine and4 (Each.inv hF) ?_; rintro fv1 fvr rfl ⟨⟨te1, rfl⟩, hF1⟩) | (refine and3 (Each.inv hF) ?_; rintro fv1 fvr ⟨rfl, ⟨te1, rfl⟩, hF1⟩) | obtain ⟨fv1, fvr, rfl, ⟨te1, rfl⟩, hF1⟩ := (Each.inv hF))
  refine k_ ?_
  clear k_ X_
  refine hide ?_
  intro X_ k_
  first | (refine ex2 (Each.inv hF1) ?_; rintro fv2 fvr hr_; first | (refine and3 hr_ ?_; clear hr_; rintro rfl ⟨te2, rfl⟩ hF2) | obtain ⟨rfl, ⟨te2, rfl⟩, hF2⟩ := hr_) | (refine ex1 (Each.inv hF1) ?_; rintro fv2 hr_; first | (refine and4 hr_ ?_; clear hr_; rintro fvr rfl ⟨te2, rfl⟩ hF2) | (refine and3 hr_ ?_; clear hr_; rintro fvr rfl ⟨⟨te2, rfl⟩, hF2⟩) | obtain ⟨fvr, rfl, ⟨te2, rfl⟩, hF2⟩ := hr_) | (first | (refine and5 (Each.inv hF1) ?_; rintro fv2 fvr rfl ⟨te2, rfl⟩ hF2) | (refine and4 (Each.inv hF1) ?_; rintro fv2 fvr rfl ⟨⟨te2, rfl⟩, hF2⟩) | (refine and3 (Each.inv hF1) ?_; rintro fv2 fvr ⟨rfl, ⟨te2, rfl⟩, hF2⟩) | obtain ⟨fv2, fvr, rfl, ⟨te2, rfl⟩, hF2⟩ := (Each.inv hF1))
  refine k_ ?_
  clear k_ X_
  obtain rfl : fvr = [] := by
    cases fvr with
    | nil => rfl
    | cons _ _ => exact hF2.elim
  clear hF hF1 hF2
  obtain ⟨M1, hM1⟩ : ∃ M1 : Led, M1 = (a, .tup [.ref T.x, .ref f]) :: (pre ++ (f, .lst [.int (1 : Nat) te1, .int (4 : Nat) te2]) :: mu₁) := ⟨_, rfl⟩
  refine w_turn (M1 ++ (treeLed T ++ [(L + 1, .cell none)])) ?_ ?_
  · rw [hM1]
    exact perm_mid
  have a1 : (a, Sh.tup [.ref T.x, .ref f]) ∈ M1 := by rw [hM1]; exact .head _
  have a3 : (f, Sh.lst [.int (1 : Nat) te1, .int (4 : Nat) te2]) ∈ M1 := by rw [hM1]; exact .tail _ (List.mem_append_right _ (.head _))
  clear hM1
  refine w_freeze (fr := M1) (mu := treeLed T ++ [(L + 1, .cell none)]) ?_
  have ka : ext (ext c.g fr0) M1 a (.tup [.ref T.x, .ref f]) := .inr a1
  have t1 : (T.x, Sh.inst 350 T.d) ∈ treeLed T ++ [(L + 1, .cell none)] := List.mem_append_left _ tree_t1
  have t2 : (T.d, Sh.att [("rows", .ref T.r)]) ∈ treeLed T ++ [(L + 1, .cell none)] := List.mem_append_left _ tree_t2
  refine w_asTup (.inl ka) ?_ (by rfl) (by rfl) hh
  repeat ((fail_if_success (with_reducible show Seq _ _ _ _)); walk_at "m1")
  refine Seq.next ?_
  dsimp only
  rw [← List.append_assoc]
  refine w_freeze (fr := fr0 ++ M1) (mu := treeLed T ++ [(L + 1, .cell none)]) ?_
  have kf : ext c.g (fr0 ++ M1) f (.lst [.int (1 : Nat) te1, .int (4 : Nat) te2]) := .inr (List.mem_append_right _ a3)
  have hg2 : ext c.g (fr0 ++ M1) sc (.seq vs) := .inl hg
  walk_at "ms"
  walk_at "mmeth"
  walk_at "ms"
  refine w_itemLst (.inl kf) (by decide) rfl (by rw [sizeLine_eq]; show 2 ≤ _; decide) ?_ sub_int
  walk_at "ms"
  refine w_call _ (fun g' h1 h2 => setAttribute_ok (ee := 1) (nr := fxE lc []) G hA.le hT (by show 6 ≤ 1000; decide) rfl rfl (by show 0 ≤ 1000; decide) ⟨_, rfl⟩ ⟨_, rfl⟩ ⟨_, rfl⟩ ⟨_, rfl⟩ (fun _ h => (nomatch h))) ?_
  rintro _ _ h_2
  refine hide ?_
  intro X_ k_
  first | (first | (refine and5 h_2 ?_; clear h_2; rintro ⟨tn1, rfl⟩ T1 e1 rfl hT1) | (refine and4 h_2 ?_; clear h_2; rintro ⟨tn1, rfl⟩ T1 e1 ⟨rfl, hT1⟩) | (refine and3 h_2 ?_; clear h_2; rintro ⟨tn1, rfl⟩ T1 ⟨e1, rfl, hT1⟩) | obtain ⟨⟨tn1, rfl⟩, T1, e1, rfl, hT1⟩ := h_2)
  refine k_ ?_
  clear k_ X_
  have hT1' : TreeIs T1 (fxT lc lc' [6] [fxA1]) := by rw [← fx_set1]; exact hT1
  clear hT1 hT t1 t2
  have t1 : (T1.x, Sh.inst 350 T1.d) ∈ treeLed T1 ++ [(L + 1, .cell none)] := List.mem_append_left _ tree_t1
  have t2 : (T1.d, Sh.att [("rows", .ref T1.r)]) ∈ treeLed T1 ++ [(L + 1, .cell none)] := List.mem_append_left _ tree_t2
  rw [← e1]
  walk_at "ms"
  walk_at "mmeth"
  walk_at "ms"
  refine w_itemLst (.inl kf) (by decide) rfl (by rw [sizeLine_eq]; show 2 ≤ _; decide) ?_ sub_int
  walk_at "ms"
  refine w_call _ (fun g' h1 h2 => setAttribute_ok (ee := 1) (nr := fxE lc [6]) G hA.le hT1' (by show 7 ≤ 1000; decide) rfl rfl (by show 1 ≤ 1000; decide) ⟨_, rfl⟩ ⟨_, rfl⟩ ⟨_, rfl⟩ ⟨_, rfl⟩ (fun j hj => ?_)) ?_
  · rw [List.mem_singleton.mp hj]
    exact ⟨fxA1, rfl, by decide +kernel⟩
  rintro _ _ h_2
  refine hide ?_
  intro X_ k_
  first | (first | (refine and5 h_2 ?_; clear h_2; rintro ⟨tn2, rfl⟩ T2 e2 rfl hT2) | (refine and4 h_2 ?_; clear h_2; rintro ⟨tn2, rfl⟩ T2 e2 ⟨rfl, hT2⟩) | (refine and3 h_2 ?_; clear h_2; rintro ⟨tn2, rfl⟩ T2 ⟨e2, rfl, hT2⟩) | obtain ⟨⟨tn2, rfl⟩, T2, e2, rfl, hT2⟩ := h_2)
  refine k_ ?_
  clear k_ X_
  have hT2' : TreeIs T2 (fxT lc lc' [6, 7] [fxA1, fxA2]) := by rw [← fx_set2]; exact hT2
  clear hT2 hT1' t1 t2
  rw [← e2]
  walk_at "ms"
  refine w_itemLst (.inl kf) (by decide) rfl (by rw [sizeLine_eq]; show 2 ≤ _; decide) ?_ sub_int
  walk_at "ms"
  refine w_callPure _ (fun g' h1 h2 => canonEl_ok G hA.le hT2' (fun p hp => h2 p (List.mem_append_left _ hp)) fx_top1) ?_
  rintro _ h_1
  refine hide ?_
  intro X_ k_
  first | (refine ex3 h_1 ?_; clear h_1; rintro o ho to rfl) | (refine ex2 h_1 ?_; clear h_1; rintro o ho hr_; first | obtain ⟨to, rfl⟩ := hr_) | (refine ex1 h_1 ?_; clear h_1; rintro o hr_; first | (refine and3 hr_ ?_; clear hr_; rintro ho to rfl) | obtain ⟨ho, to, rfl⟩ := hr_) | (first | (refine and4 h_1 ?_; clear h_1; rintro o ho to rfl) | (refine and3 h_1 ?_; clear h_1; rintro o ho ⟨to, rfl⟩) | obtain ⟨o, ho, to, rfl⟩ := h_1)
  refine k_ ?_
  clear k_ X_
  have ho' := fx_form1 ho
  subst ho'
  walk_at "ms"
  refine Br.ff (by kernel_rfl) ?_
  walk_at "ms"
  refine w_itemLst (.inl kf) (by decide) rfl (by rw [sizeLine_eq]; show 2 ≤ _; decide) ?_ sub_int
  walk_at "ms"
  refine w_callPure _ (fun g' h1 h2 => canonEl_ok G hA.le hT2' (fun p hp => h2 p (List.mem_append_left _ hp)) fx_top2) ?_
  rintro _ h_1
  refine hide ?_
  intro X_ k_
  first | (refine ex3 h_1 ?_; clear h_1; rintro o ho to rfl) | (refine ex2 h_1 ?_; clear h_1; rintro o ho hr_; first | obtain ⟨to, rfl⟩ := hr_) | (refine ex1 h_1 ?_; clear h_1; rintro o hr_; first | (refine and3 hr_ ?_; clear hr_; rintro ho to rfl) | obtain ⟨ho, to, rfl⟩ := hr_) | (first | (refine and4 h_1 ?_; clear h_1; rintro o ho to rfl) | (refine and3 h_1 ?_; clear h_1; rintro o ho ⟨to, rfl⟩) | obtain ⟨o, ho, to, rfl⟩ := h_1)
  refine k_ ?_
  clear k_ X_
  have ho' := fx_form2 ho
  subst ho'
  walk_at "ms"
  refine Br.ff (by kernel_rfl) ?_
  walk_at "ms"
  refine w_call (mu := []) _ (fun g' h1 h2 => source_ok G hA.le (h1 _ _ hg2) hi hz) ?_
  rintro _ _ h_2
  refine hide ?_
  intro X_ k_
  first | (refine ex5 h_2 ?_; clear h_2; rintro sr za zb zt zu hr_; first | (refine and4 hr_ ?_; clear hr_; rintro rfl rfl hb0 hb1) | (refine and3 hr_ ?_; clear hr_; rintro rfl rfl ⟨hb0, hb1⟩) | obtain ⟨rfl, rfl, hb0, hb1⟩ := hr_) | (refine ex4 h_2 ?_; clear h_2; rintro sr za zb zt hr_; first | (refine and5 hr_ ?_; clear hr_; rintro zu rfl rfl hb0 hb1) | (refine and4 hr_ ?_; clear hr_; rintro zu rfl rfl ⟨hb0, hb1⟩) | (refine and3 hr_ ?_; clear hr_; rintro zu rfl ⟨rfl, hb0, hb1⟩) | obtain ⟨zu, rfl, rfl, hb0, hb1⟩ := hr_) | (refine ex3 h_2 ?_; clear h_2; rintro sr za zb hr_; first | (refine and6 hr_ ?_; clear hr_; rintro zt zu rfl rfl hb0 hb1) | (refine and5 hr_ ?_; clear hr_; rintro zt zu rfl rfl ⟨hb0, hb1⟩) | (refine and4 hr_ ?_; clear hr_; rintro zt zu rfl ⟨rfl, hb0, hb1⟩) | (refine and3 hr_ ?_; clear hr_; rintro zt zu ⟨rfl, rfl, hb0, hb1⟩) | obtain ⟨zt, zu, rfl, rfl, hb0, hb1⟩ := hr_) | (refine ex2 h_2 ?_; clear h_2; rintro sr za hr_; first | (refine and7 hr_ ?_; clear hr_; rintro zb zt zu rfl rfl hb0 hb1) | (refine and6 hr_ ?_; clear hr_; rintro zb zt zu rfl rfl ⟨hb0, hb1⟩) | (refine and5 hr_ ?_; clear hr_; rintro zb zt zu rfl ⟨rfl, hb0, hb1⟩) | (refine and4 hr_ ?_; clear hr_; rintro zb zt zu ⟨rfl, rfl, hb0, hb1⟩) | (refine and3 hr_ ?_; clear hr_; rintro zb zt ⟨zu, rfl, rfl, hb0, hb1⟩) | obtain ⟨zb, zt, zu, rfl, rfl, hb0, hb1⟩ := hr_) | (refine ex1 h_2 ?_; clear h_2; rintro sr hr_; first | (refine and8 hr_ ?_; clear hr_; rintro za zb zt zu rfl rfl hb0 hb1) | (refine and7 hr_ ?_; clear hr_; rintro za zb zt zu rfl rfl ⟨hb0, hb1⟩) | (refine and6 hr_ ?_; clear hr_; rintro za zb zt zu rfl ⟨rfl, hb0, hb1⟩) | (refine and5 hr_ ?_; clear hr_; rintro za zb zt zu ⟨rfl, rfl, hb0, hb1⟩) | (refine and4 hr_ ?_; clear hr_; rintro za zb zt ⟨zu, rfl, rfl, hb0, hb1⟩) | (refine and3 hr_ ?_; clear hr_; rintro za zb ⟨zt, zu, rfl, rfl, hb0, hb1⟩) | obtain ⟨za, zb, zt, zu, rfl, rfl, hb0, hb1⟩ := hr_) | (first | (refine and9 h_2 ?_; clear h_2; rintro sr za zb zt zu rfl rfl hb0 hb1) | (refine and8 h_2 ?_; clear h_2; rintro sr za zb zt zu rfl rfl ⟨hb0, hb1⟩) | (refine and7 h_2 ?_; clear h_2; rintro sr za zb zt zu rfl ⟨rfl, hb0, hb1⟩) | (refine and6 h_2 ?_; clear h_2; rintro sr za zb zt zu ⟨rfl, rfl, hb0, hb1⟩) | (refine and5 h_2 ?_; clear h_2; rintro sr za zb zt ⟨zu, rfl, rfl, hb0, hb1⟩) | (refine and4 h_2 ?_; clear h_2; rintro sr za zb ⟨zt, zu, rfl, rfl, hb0, hb1⟩) | (refine and3 h_2 ?_; clear h_2; rintro sr za ⟨zb, zt, zu, rfl, rfl, hb0, hb1⟩) | obtain ⟨sr, za, zb, zt, zu, rfl, rfl, hb0, hb1⟩ := h_2)
  refine k_ ?_
  clear k_ X_
  repeat ((fail_if_success (with_reducible show Seq _ _ _ _)); walk_at "m1")
  refine w_storeC (a := L + 1) (by with_unfolding_all rfl) (Up.tail (Up.appR Up.head (treeLed T2))) ?_
  refine Seq.next ?_
  refine w_weaken Up.head ?_
  refine w_turn ((treeLed T2 ++ [(L + 1, .cell (some (.ref sr)))]) ++ [(sr, .seq [.int za zt, .int zb zu])]) (List.perm_append_comm (l₁ := [_])) ?_
  refine w_freeze (fr := treeLed T2 ++ [(L + 1, .cell (some (.ref sr)))]) (mu := [(sr, .seq [.int za zt, .int zb zu])]) ?_
  have kc : ext (ext c.g (fr0 ++ M1)) (treeLed T2 ++ [(L + 1, .cell (some (.ref sr)))]) (L + 1) (.cell (some (.ref sr))) := .inr (List.mem_append_right _ (.head _))
  have hs0 : SrcLed sr [(sr, .seq [.int za zt, .int zb zu])] := ⟨_, _, _, _, rfl, hb0, hb1⟩
  obtain ⟨mu0, hmu0⟩ : ∃ mu0 : Led, mu0 = [(sr, .seq [.int za zt, .int zb zu])] := ⟨_, rfl⟩
  rw [← hmu0] at hs0 ⊢
  walk_at "ms"
  refine w_comp (cl := [("source", L + 1)]) ?_ (by rfl) (by decide) (by rfl) (by decide +kernel)
  walk_at "ms"
  refine w_range1 (n := 3) fun rg t1 t2 t3 => ?_
  refine ⟨[(rg, .obj (rangeObj 3 t1 t2 t3))], _, mu0, 3, fun i v => ∃ t, v = .int (i : Int) t, fun i ys mu => ∃ rows mu₁ rest, mu.Perm (mu₁ ++ rest) ∧ SrcLed sr mu₁ ∧ Each (RowV (inL rest)) rows ys ∧ (∀ r ∈ rows, RowOk r) ∧ rows.length = i, rfl, src_range hh (.inr (.head _)) (by decide), ⟨[], mu0, [], by rw [List.append_nil], hs0, trivial, (fun _ h => (nomatch h)), rfl⟩, ?turn, ?len, ?fin⟩
  case len =>
    rintro i ys mu h_3 hi
    refine hide ?_
    intro X_ k_
    first | (refine ex7 h_3 ?_; clear h_3; rintro rows mu₁ rest _ _ hE _ hl) | (refine ex6 h_3 ?_; clear h_3; rintro rows mu₁ rest _ _ hE hr_; first | obtain ⟨_, hl⟩ := hr_) | (refine ex5 h_3 ?_; clear h_3; rintro rows mu₁ rest _ _ hr_; first | (refine and3 hr_ ?_; clear hr_; rintro hE _ hl) | obtain ⟨hE, _, hl⟩ := hr_) | (refine ex4 h_3 ?_; clear h_3; rintro rows mu₁ rest _ hr_; first | (refine and4 hr_ ?_; clear hr_; rintro _ hE _ hl) | (refine and3 hr_ ?_; clear hr_; rintro _ hE ⟨_, hl⟩) | obtain ⟨_, hE, _, hl⟩ := hr_) | (refine ex3 h_3 ?_; clear h_3; rintro rows mu₁ rest hr_; first | (refine and5 hr_ ?_; clear hr_; rintro _ _ hE _ hl) | (refine and4 hr_ ?_; clear hr_; rintro _ _ hE ⟨_, hl⟩) | (refine and3 hr_ ?_; clear hr_; rintro _ _ ⟨hE, _, hl⟩) | obtain ⟨_, _, hE, _, hl⟩ := hr_) | (refine ex2 h_3 ?_; clear h_3; rintro rows mu₁ hr_; first | (refine and6 hr_ ?_; clear hr_; rintro rest _ _ hE _ hl) | (refine and5 hr_ ?_; clear hr_; rintro rest _ _ hE ⟨_, hl⟩) | (refine and4 hr_ ?_; clear hr_; rintro rest _ _ ⟨hE, _, hl⟩) | (refine and3 hr_ ?_; clear hr_; rintro rest _ ⟨_, hE, _, hl⟩) | obtain ⟨rest, _, _, hE, _, hl⟩ := hr_) | (refine ex1 h_3 ?_; clear h_3; rintro rows hr_; first | (refine and7 hr_ ?_; clear hr_; rintro mu₁ rest _ _ hE _ hl) | (refine and6 hr_ ?_; clear hr_; rintro mu₁ rest _ _ hE ⟨_, hl⟩) | (refine and5 hr_ ?_; clear hr_; rintro mu₁ rest _ _ ⟨hE, _, hl⟩) | (refine and4 hr_ ?_; clear hr_; rintro mu₁ rest _ ⟨_, hE, _, hl⟩) | (refine and3 hr_ ?_; clear hr_; rintro mu₁ rest ⟨_, _, hE, _, hl⟩) | obtain ⟨mu₁, rest, _, _, hE, _, hl⟩ := hr_) | (first | (refine and8 h_3 ?_; clear h_3; rintro rows mu₁ rest _ _ hE _ hl) | (refine and7 h_3 ?_; clear h_3; rintro rows mu₁ rest _ _ hE ⟨_, hl⟩) | (refine and6 h_3 ?_; clear h_3; rintro rows mu₁ rest _ _ ⟨hE, _, hl⟩) | (refine and5 h_3 ?_; clear h_3; rintro rows mu₁ rest _ ⟨_, hE, _, hl⟩) | (refine and4 h_3 ?_; clear h_3; rintro rows mu₁ rest ⟨_, _, hE, _, hl⟩) | (refine and3 h_3 ?_; clear h_3; rintro rows mu₁ ⟨rest, _, _, hE, _, hl⟩) | obtain ⟨rows, mu₁, rest, _, _, hE, _, hl⟩ := h_3)
    refine k_ ?_
    clear k_ X_
    have e1 := hE.len
    rw [sizeLine_eq]
    omega
  case turn =>
    rintro i v ys mu m0 L' g' hi ⟨ti, rfl⟩ h_9 hg'
    refine hide ?_
    intro X_ k_
    first | (refine ex7 h_9 ?_; clear h_9; rintro rows mu₁ rest hp hs hE hR hl) | (refine ex6 h_9 ?_; clear h_9; rintro rows mu₁ rest hp hs hE hr_; first | obtain ⟨hR, hl⟩ := hr_) | (refine ex5 h_9 ?_; clear h_9; rintro rows mu₁ rest hp hs hr_; first | (refine and3 hr_ ?_; clear hr_; rintro hE hR hl) | obtain ⟨hE, hR, hl⟩ := hr_) | (refine ex4 h_9 ?_; clear h_9; rintro rows mu₁ rest hp hr_; first | (refine and4 hr_ ?_; clear hr_; rintro hs hE hR hl) | (refine and3 hr_ ?_; clear hr_; rintro hs hE ⟨hR, hl⟩) | obtain ⟨hs, hE, hR, hl⟩ := hr_) | (refine ex3 h_9 ?_; clear h_9; rintro rows mu₁ rest hr_; first | (refine and5 hr_ ?_; clear hr_; rintro hp hs hE hR hl) | (refine and4 hr_ ?_; clear hr_; rintro hp hs hE ⟨hR, hl⟩) | (refine and3 hr_ ?_; clear hr_; rintro hp hs ⟨hE, hR, hl⟩) | obtain ⟨hp, hs, hE, hR, hl⟩ := hr_) | (refine ex2 h_9 ?_; clear h_9; rintro rows mu₁ hr_; first | (refine and6 hr_ ?_; clear hr_; rintro rest hp hs hE hR hl) | (refine and5 hr_ ?_; clear hr_; rintro rest hp hs hE ⟨hR, hl⟩) | (refine and4 hr_ ?_; clear hr_; rintro rest hp hs ⟨hE, hR, hl⟩) | (refine and3 hr_ ?_; clear hr_; rintro rest hp ⟨hs, hE, hR, hl⟩) | obtain ⟨rest, hp, hs, hE, hR, hl⟩ := hr_) | (refine ex1 h_9 ?_; clear h_9; rintro rows hr_; first | (refine and7 hr_ ?_; clear hr_; rintro mu₁ rest hp hs hE hR hl) | (refine and6 hr_ ?_; clear hr_; rintro mu₁ rest hp hs hE ⟨hR, hl⟩) | (refine and5 hr_ ?_; clear hr_; rintro mu₁ rest hp hs ⟨hE, hR, hl⟩) | (refine and4 hr_ ?_; clear hr_; rintro mu₁ rest hp ⟨hs, hE, hR, hl⟩) | (refine and3 hr_ ?_; clear hr_; rintro mu₁ rest ⟨hp, hs, hE, hR, hl⟩) | obtain ⟨mu₁, rest, hp, hs, hE, hR, hl⟩ := hr_) | (first | (refine and8 h_9 ?_; clear h_9; rintro rows mu₁ rest hp hs hE hR hl) | (refine and7 h_9 ?_; clear h_9; rintro rows mu₁ rest hp hs hE ⟨hR, hl⟩) | (refine and6 h_9 ?_; clear h_9; rintro rows mu₁ rest hp hs ⟨hE, hR, hl⟩) | (refine and5 h_9 ?_; clear h_9; rintro rows mu₁ rest hp ⟨hs, hE, hR, hl⟩) | (refine and4 h_9 ?_; clear h_9; rintro rows mu₁ rest ⟨hp, hs, hE, hR, hl⟩) | (refine and3 h_9 ?_; clear h_9; rintro rows mu₁ ⟨rest, hp, hs, hE, hR, hl⟩) | obtain ⟨rows, mu₁, rest, hp, hs, hE, hR, hl⟩ := h_9)
    refine k_ ?_
    clear k_ X_
    have kc' := hg' _ _ (.inl kc)
    refine w_turn (mu₁ ++ rest) hp ?_
    walk_at "ms"
    refine w_call _ (fun g' h1 h2 => row_ok' G hA.le hs hi) ?_
    rintro x _ h_2
    refine hide ?_
    intro X_ k_
    first | (refine ex4 h_2 ?_; clear h_2; rintro r fr mu₃ mu₂ hr_; first | (refine and5 hr_ ?_; clear hr_; rintro rfl hs' hr hn hv) | (refine and4 hr_ ?_; clear hr_; rintro rfl hs' hr ⟨hn, hv⟩) | (refine and3 hr_ ?_; clear hr_; rintro rfl hs' ⟨hr, hn, hv⟩) | obtain ⟨rfl, hs', hr, hn, hv⟩ := hr_) | (refine ex3 h_2 ?_; clear h_2; rintro r fr mu₃ hr_; first | (refine and6 hr_ ?_; clear hr_; rintro mu₂ rfl hs' hr hn hv) | (refine and5 hr_ ?_; clear hr_; rintro mu₂ rfl hs' hr ⟨hn, hv⟩) | (refine and4 hr_ ?_; clear hr_; rintro mu₂ rfl hs' ⟨hr, hn, hv⟩) | (refine and3 hr_ ?_; clear hr_; rintro mu₂ rfl ⟨hs', hr, hn, hv⟩) | obtain ⟨mu₂, rfl, hs', hr, hn, hv⟩ := hr_) | (refine ex2 h_2 ?_; clear h_2; rintro r fr hr_; first | (refine and7 hr_ ?_; clear hr_; rintro mu₃ mu₂ rfl hs' hr hn hv) | (refine and6 hr_ ?_; clear hr_; rintro mu₃ mu₂ rfl hs' hr ⟨hn, hv⟩) | (refine and5 hr_ ?_; clear hr_; rintro mu₃ mu₂ rfl hs' ⟨hr, hn, hv⟩) | (refine and4 hr_ ?_; clear hr_; rintro mu₃ mu₂ rfl ⟨hs', hr, hn, hv⟩) | (refine and3 hr_ ?_; clear hr_; rintro mu₃ mu₂ ⟨rfl, hs', hr, hn, hv⟩) | obtain ⟨mu₃, mu₂, rfl, hs', hr, hn, hv⟩ := hr_) | (refine ex1 h_2 ?_; clear h_2; rintro r hr_; first | (refine and8 hr_ ?_; clear hr_; rintro fr mu₃ mu₂ rfl hs' hr hn hv) | (refine and7 hr_ ?_; clear hr_; rintro fr mu₃ mu₂ rfl hs' hr ⟨hn, hv⟩) | (refine and6 hr_ ?_; clear hr_; rintro fr mu₃ mu₂ rfl hs' ⟨hr, hn, hv⟩) | (refine and5 hr_ ?_; clear hr_; rintro fr mu₃ mu₂ rfl ⟨hs', hr, hn, hv⟩) | (refine and4 hr_ ?_; clear hr_; rintro fr mu₃ mu₂ ⟨rfl, hs', hr, hn, hv⟩) | (refine and3 hr_ ?_; clear hr_; rintro fr mu₃ ⟨mu₂, rfl, hs', hr, hn, hv⟩) | obtain ⟨fr, mu₃, mu₂, rfl, hs', hr, hn, hv⟩ := hr_) | (first | (refine and9 h_2 ?_; clear h_2; rintro r fr mu₃ mu₂ rfl hs' hr hn hv) | (refine and8 h_2 ?_; clear h_2; rintro r fr mu₃ mu₂ rfl hs' hr ⟨hn, hv⟩) | (refine and7 h_2 ?_; clear h_2; rintro r fr mu₃ mu₂ rfl hs' ⟨hr, hn, hv⟩) | (refine and6 h_2 ?_; clear h_2; rintro r fr mu₃ mu₂ rfl ⟨hs', hr, hn, hv⟩) | (refine and5 h_2 ?_; clear h_2; rintro r fr mu₃ mu₂ ⟨rfl, hs', hr, hn, hv⟩) | (refine and4 h_2 ?_; clear h_2; rintro r fr mu₃ ⟨mu₂, rfl, hs', hr, hn, hv⟩) | (refine and3 h_2 ?_; clear h_2; rintro r fr ⟨mu₃, mu₂, rfl, hs', hr, hn, hv⟩) | obtain ⟨r, fr, mu₃, mu₂, rfl, hs', hr, hn, hv⟩ := h_2)
    refine k_ ?_
    clear k_ X_
    refine ⟨rows ++ [r], mu₃, (fr ++ mu₂) ++ rest, ?_, hs', Each.snoc (hE.mono (RowV.mono fun _ _ h => List.mem_append_right _ h)) (RowV.mono (fun _ _ h => List.mem_append_left _ h) _ _ hv), ?_, ?_⟩
    · dsimp only
      rw [← List.append_assoc, ← List.append_assoc, ← List.append_assoc]
      exact List.Perm.append_right _ (List.Perm.append_right _ List.perm_append_comm)
    · intro q hq
      rcases List.mem_append.mp hq with hq | hq
      · exact hR q hq
      · rw [List.mem_singleton.mp hq]; exact hr
    · rw [List.length_append, hl]; rfl
  case fin =>
    rintro D ys mu h_3
    refine hide ?_
    intro X_ k_
    first | (refine ex7 h_3 ?_; clear h_3; rintro rows mu₁ rest hp hs hE hR hl) | (refine ex6 h_3 ?_; clear h_3; rintro rows mu₁ rest hp hs hE hr_; first | obtain ⟨hR, hl⟩ := hr_) | (refine ex5 h_3 ?_; clear h_3; rintro rows mu₁ rest hp hs hr_; first | (refine and3 hr_ ?_; clear hr_; rintro hE hR hl) | obtain ⟨hE, hR, hl⟩ := hr_) | (refine ex4 h_3 ?_; clear h_3; rintro rows mu₁ rest hp hr_; first | (refine and4 hr_ ?_; clear hr_; rintro hs hE hR hl) | (refine and3 hr_ ?_; clear hr_; rintro hs hE ⟨hR, hl⟩) | obtain ⟨hs, hE, hR, hl⟩ := hr_) | (refine ex3 h_3 ?_; clear h_3; rintro rows mu₁ rest hr_; first | (refine and5 hr_ ?_; clear hr_; rintro hp hs hE hR hl) | (refine and4 hr_ ?_; clear hr_; rintro hp hs hE ⟨hR, hl⟩) | (refine and3 hr_ ?_; clear hr_; rintro hp hs ⟨hE, hR, hl⟩) | obtain ⟨hp, hs, hE, hR, hl⟩ := hr_) | (refine ex2 h_3 ?_; clear h_3; rintro rows mu₁ hr_; first | (refine and6 hr_ ?_; clear hr_; rintro rest hp hs hE hR hl) | (refine and5 hr_ ?_; clear hr_; rintro rest hp hs hE ⟨hR, hl⟩) | (refine and4 hr_ ?_; clear hr_; rintro rest hp hs ⟨hE, hR, hl⟩) | (refine and3 hr_ ?_; clear hr_; rintro rest hp ⟨hs, hE, hR, hl⟩) | obtain ⟨rest, hp, hs, hE, hR, hl⟩ := hr_) | (refine ex1 h_3 ?_; clear h_3; rintro rows hr_; first | (refine and7 hr_ ?_; clear hr_; rintro mu₁ rest hp hs hE hR hl) | (refine and6 hr_ ?_; clear hr_; rintro mu₁ rest hp hs hE ⟨hR, hl⟩) | (refine and5 hr_ ?_; clear hr_; rintro mu₁ rest hp hs ⟨hE, hR, hl⟩) | (refine and4 hr_ ?_; clear hr_; rintro mu₁ rest hp ⟨hs, hE, hR, hl⟩) | (refine and3 hr_ ?_; clear hr_; rintro mu₁ rest ⟨hp, hs, hE, hR, hl⟩) | obtain ⟨mu₁, rest, hp, hs, hE, hR, hl⟩ := hr_) | (first | (refine and8 h_3 ?_; clear h_3; rintro rows mu₁ rest hp hs hE hR hl) | (refine and7 h_3 ?_; clear h_3; rintro rows mu₁ rest hp hs hE ⟨hR, hl⟩) | (refine and6 h_3 ?_; clear h_3; rintro rows mu₁ rest hp hs ⟨hE, hR, hl⟩) | (refine and5 h_3 ?_; clear h_3; rintro rows mu₁ rest hp ⟨hs, hE, hR, hl⟩) | (refine and4 h_3 ?_; clear h_3; rintro rows mu₁ rest ⟨hp, hs, hE, hR, hl⟩) | (refine and3 h_3 ?_; clear h_3; rintro rows mu₁ ⟨rest, hp, hs, hE, hR, hl⟩) | obtain ⟨rows, mu₁, rest, hp, hs, hE, hR, hl⟩ := h_3)
    refine k_ ?_
    clear k_ X_
    walk_at "ms"
    refine w_callPure _ (fun g' h1 h2 => right_ok G hA.le (h2 (_, _) (List.mem_append_right _ (.head _))) (hE.mono (RowV.mono fun b sh h => h2 (b, sh) (List.mem_append_right _ (.tail _ (hp.mem_iff.mpr (List.mem_append_right _ h)))))) hR (by omega) (by intro e; rw [e] at hl; cases hl)) ?_
    rintro _ rfl
    exact Seq.ret rfl
end
end Mine
end -- F26

section -- F27
open PySem PySem.W PySem.Calls PyProof.Rows PySem.Builtin
namespace Mine
section
/-- what the top's heap and the laid script say -/
noncomputable def g0 (O : Heap) (sc : Addr) (vs : List Value) : Kn := fun a sh => (∃ o, O.get? a = some o ∧ sh = .obj o) ∨ (a = sc ∧ sh = .seq vs)
theorem g0_rel {prog : Program} {w : World} {O : Heap} {sc : Addr} {vs : List Value} (h : O.IsList sc vs.toArray) : Rel0 prog w O (g0 O sc vs) [] O where
  fz := fun a sh k => by
    rcases k with ⟨o, e, rfl⟩ | ⟨rfl, rfl⟩
    · exact ⟨o, e, rfl⟩
    · refine hide ?_
      intro X_ k_
      first | (refine ex3 h ?_; clear h; rintro o e h1 h2) | (refine ex2 h ?_; clear h; rintro o e hr_; first | obtain ⟨h1, h2⟩ := hr_) | (refine ex1 h ?_; clear h; rintro o hr_; first | (refine and3 hr_ ?_; clear hr_; rintro e h1 h2) | obtain ⟨e, h1, h2⟩ := hr_) | (first | (refine and4 h ?_; clear h; rintro o e h1 h2) | (refine and3 h ?_; clear h; rintro o e ⟨h1, h2⟩) | obtain ⟨o, e, h1, h2⟩ := h)
      refine k_ ?_
      clear k_ X_
      exact ⟨o, e, h1, h2⟩
  led := fun _ h => (nomatch h)
  nd := List.nodup_nil
  dj := fun _ h => (nomatch h)
  gr := fun a o e => .inl ⟨o, e, rfl⟩
  up := Nat.le_refl _
theorem g0_end {prog : Program} {w : World} {s s' : Shared} {sc : Addr} {vs : List Value} {r : Result} (h : CallPost prog w s.heap (g0 s.heap sc vs) s (fun v _ => v = .bool true) r s') :
    r = .ok (.ret (.bool true)) ∧ (∀ b o, s.heap.get? b = some o → s'.heap.get? b = some o) ∧ s'.os = s.os ∧ s'.gens = s.gens := by
  match r, h with
  | .ok (.ret v), ⟨mu, h, tk, e, R, hv⟩ =>
    subst e hv
    refine ⟨rfl, fun b o e => ?_, rfl, rfl⟩
    obtain ⟨o', e', q⟩ := R.fz b _ (R.gr b o e)
    have q' : o' = o := q
    rw [← q']
    exact e'
theorem xt_parts (s : Shared) (e : xt s = true) : xlAt qv [] s = true ∧ recOk (RowW.records (OpenRow.toRowW PySem.Challenge.rw_pf0177_01.row)) s = true := Bool.and_eq_true_iff.mp e
theorem caller_amb : Amb callerA 14 := ⟨rfl, by decide +kernel, by decide +kernel⟩
theorem law_walk {w : World} {s : Shared} {mg mb : Str → Option Value} {sc : Addr} {vs : List Value} {ns : List Int} (G : Gnd (hk.heap_1 w.params) s.heap mg mb) (h : s.heap.IsList sc vs.toArray) (hi : IntsAre vs ns) (hz : vs.length ≤ 1000) :
    codeAny (model PySem.Challenge.rw_pf0177_01.row.prog w) callerA (.call (.ref 437) ⟨[.ref sc], []⟩) (fun r s' => r = .ok (.ret (.bool true)) ∧ (∀ b o, s.heap.get? b = some o → s'.heap.get? b = some o) ∧ s'.os = s.os ∧ s'.gens = s.gens) s :=
  codeAny_mono (law_ok G caller_amb (g := g0 s.heap sc vs) (.inr ⟨rfl, rfl⟩) hi hz s s.heap s.toks (g0_rel h)) fun _ _ k => g0_end k
theorem law_at {P : Params} {O : Heap} {mg mb : Str → Option Value} {fa : Addr} (G : Gnd (hk.heap_1 P) O mg mb) (h : mg "law" = some (.ref fa)) : fa = 437 := by
  have e : mg "law" = some (.ref 437) := mg_of G.X G.g (by k_is)
  have := h.symm.trans e
  cases this
  rfl
end
end Mine
end -- F27

theorem PySem.Challenge.cw_pf0177_01_holds : PySem.Challenge.rw_pf0177_01.Holds := by
  refine holds_law Mine.said fun said => ?_
  refine PySem.W.holds_open (q := Mine.qv) (loose := Mine.looseL) (Xt := Mine.xt) (XP := XL Mine.qv []) (Yf := Mine.hook.obs) (Ya := Mine.hook.val) (YP := Mine.hook.says) (N := 5360) Mine.left Mine.hook.of Mine.hook.keeps (fun s e => xl_of s (Mine.xt_parts s e).1) XL.keeps (by rfl) (by rfl) (by rfl) (fun s e => recFacts_of (Mine.xt_parts s e).2) (by rfl) (by first | assumption | decide +kernel) (by decide +kernel) ⟨rfl, rfl, rfl, rfl, rfl, by decide +kernel⟩ ?hw ?hc
  case hw => w_witness2
  intro w s₀ s₁ mg mb G Y fa o pm cd doc dV kV ho hd hcd hD hmg hg args vals as hpre hlay hrd hwl hlo
  have KX := kIn_of Y
  refine Ground.open G ?_
  intro T B D TE TW
  have GG : Mine.Gnd (Mine.hk.heap_1 w.params) s₁.heap mg mb := ⟨KX, T.g, T.b, T.nolimit, T.builtins⟩
  clear ho hd hcd hD T B D TE TW G Y KX
  wrow_args hpre hlay hrd hwl hlo
  rename_i ns _ _ _ _ _ _ _ sc vs _ hL _ _ _ hI _ hc _
  refine enter_call ?_
  obtain rfl := Mine.law_at GG hmg
  refine codeAny_mono (Mine.law_walk GG hL hI ?_) (fun r s' k => GoodW.toG ?_)
  · have := hI.length
    omega
  · refine hide ?_
    intro X_ k_
    first | (first | (refine and4 k ?_; clear k; rintro rfl k1 k2 k3) | (refine and3 k ?_; clear k; rintro rfl k1 ⟨k2, k3⟩) | obtain ⟨rfl, k1, k2, k3⟩ := k)
    refine k_ ?_
    clear k_ X_
    refine ⟨.inl ⟨_, _, _, rfl, fun _ => rfl, .bool true, ?_, fun _ => ⟨List.nodup_nil, fun _ h => (nomatch h)⟩⟩, k1, k2, k3.trans hg⟩
    with_unfolding_all rfl
