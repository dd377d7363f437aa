import PyProof.Rows.All
import Wide.All
import OpenK.AllK
import Wide.FinOn
import PySem.Challenge.RW_nt0631_01
set_option Elab.async false

section
open PySem PySem.W PySem.Calls PyProof.Rows
set_option Elab.async false
set_option maxRecDepth 100000
namespace Mine

/-- to take facts apart behind a short goal -/
theorem hide {p : Prop} (h : ∀ g : Prop, (p → g) → g) : p := h p id

/-- where the five lists lie -/
structure Pl where
  aP : Addr
  aS : Addr
  aH : Addr
  aK : Addr
  aO : Addr

def Pl.W (c : Pl) : List Addr := [c.aP, c.aS, c.aH, c.aK, c.aO]

/-- the abstract state: places, seen, held, kept, the answers to come; n bounds the lengths -/
structure Sg where
  P : List Value
  S : List Int
  H : List Value
  K : List Value
  O : List Bool
  n : Nat

/-- what lies at a place: an int or one of the two words -/
def VOk (v : Value) : Prop := (∃ i t, v = .int i t) ∨ (∃ t, v = .str "begin" t) ∨ ∃ t, v = .str "end" t
theorem VOk.nr {v : Value} (x : VOk v) (a : Addr) : v ≠ .ref a := by rcases x with ⟨i, t, rfl⟩ | ⟨t, rfl⟩ | ⟨t, rfl⟩ <;> intro q <;> cases q

abbrev ORel := List Bool → List Value → Prop

structure Run (c : Pl) (orel : ORel) (σ : Sg) (h : Heap) : Prop where
  p : h.PlainList c.aP σ.P.toArray
  s : ∃ vs, h.PlainList c.aS vs.toArray ∧ IntsAre vs σ.S
  hh : h.PlainList c.aH σ.H.toArray
  k : h.PlainList c.aK σ.K.toArray
  o : ∃ vs, h.PlainList c.aO vs.toArray ∧ orel σ.O vs
  pl : σ.P.length ≤ 1000
  bS : σ.S.length ≤ σ.n
  bH : σ.H.length ≤ σ.n
  bK : σ.K.length ≤ σ.n
  vp : ∀ v ∈ σ.P, VOk v
  vh : ∀ v ∈ σ.H, VOk v
  bO : σ.O.length ≤ 1000

/-- all but the five lists stays -/
def Kp (W : List Addr) (h h' : Heap) : Prop := ∀ b o, b ∉ W → h.get? b = some o → h'.get? b = some o
theorem Kp.refl {W : List Addr} {h : Heap} : Kp W h h := fun _ _ _ e => e
theorem Kp.trans {W : List Addr} {h h' h'' : Heap} (x : Kp W h h') (y : Kp W h' h'') : Kp W h h'' := fun b o n e => y b o n (x b o n e)
theorem Kp.of_keeps {W : List Addr} {h h' : Heap} (k : ∀ b o, h.get? b = some o → h'.get? b = some o) : Kp W h h' := fun b o _ e => k b o e
theorem Kp.ns {W : List Addr} {h h' : Heap} {L : Addr} {m : Str → Option Value} (x : Kp W h h') (hL : L ∉ W) (hn : h.Ns L m) : h'.Ns L m :=
  let ⟨o, es, ep, e, r⟩ := hn; ⟨o, es, ep, x _ _ hL e, r⟩

theorem Run.keeps {c : Pl} {orel : ORel} {σ : Sg} {h h' : Heap} (r : Run c orel σ h) (k : ∀ b, b ∈ c.W → ∀ o, h.get? b = some o → h'.get? b = some o) : Run c orel σ h' := by
  obtain ⟨p, ⟨vs, s1, s2⟩, hh, kk, ⟨vo, o1, o2⟩, a, b, cc, d, e, f, g⟩ := r
  exact ⟨p.at (k _ (by simp [Pl.W])), ⟨vs, s1.at (k _ (by simp [Pl.W])), s2⟩, hh.at (k _ (by simp [Pl.W])), kk.at (k _ (by simp [Pl.W])), ⟨vo, o1.at (k _ (by simp [Pl.W])), o2⟩, a, b, cc, d, e, f, g⟩

/-- frames below: dicts, off the lists and off the ground -/
def FFr (G : Heap) (W : List Addr) (h : Heap) : List Env → Prop
  | [] => True
  | env :: r => env.scope.kind ≠ .module ∧ (∃ L m, env.frame = some L ∧ G.get? L = none ∧ L ∉ W ∧ h.Ns L m) ∧ FFr G W h r

theorem FFr.kp {G : Heap} {W : List Addr} {h h' : Heap} (k : Kp W h h') : ∀ {l : List Env}, FFr G W h l → FFr G W h' l
  | [], _ => trivial
  | _ :: _, ⟨a, ⟨L, m, b1, b2, b3, b4⟩, r⟩ => ⟨a, ⟨L, m, b1, b2, b3, k.ns b3 b4⟩, FFr.kp k r⟩
theorem FFr.up {G : Heap} {W : List Addr} {h h' : Heap} (k : h.UpToSlots h') : ∀ {l : List Env}, FFr G W h l → FFr G W h' l
  | [], _ => trivial
  | _ :: _, ⟨a, ⟨L, m, b1, b2, b3, b4⟩, r⟩ => ⟨a, ⟨L, m, b1, b2, b3, k.ns b4⟩, FFr.up k r⟩

theorem FFr.fun {G : Heap} {W : List Addr} {h : Heap} : ∀ {l : List Env}, FFr G W h l → h.FunFrames G l
  | [], _ => trivial
  | _ :: _, ⟨a, ⟨L, m, b1, b2, _, o, es, ep, b4, b5, _⟩, r⟩ => ⟨a, ⟨L, o, b1, b2, b4, fun vs q => by rw [b5] at q; cases q⟩, FFr.fun r⟩

/-- what a call may ask of its surroundings -/
structure Ok (G : Heap) (W : List Addr) (A : Around) (outer : List Env) (h : Heap) (dep un : Nat) : Prop where
  fr : A.frames = some outer
  hd : A.handled = none
  dp : A.depth + dep < recursionLimit
  un : A.units + un < cLine
  ff : FFr G W h outer
  sz : G.objs.size ≤ h.objs.size

/-- an exception of class C flies, as the lists stood at σ -/
def Flies (G : Heap) (c : Pl) (orel : ORel) (C : Addr) (outer : List Env) (σ : Sg) (h₀ : Heap) (e : Addr) (h : Heap) : Prop :=
  ∃ base a0, (∀ b o, b ∉ c.W → b ∉ outer.filterMap (·.frame) → h₀.get? b = some o → base.get? b = some o) ∧ G.StaysIn base ∧ Run c orel σ base ∧ Heap.FlyingW base outer e (.ref C) a0 h ∧
    ∀ b o, b ∉ c.W → h₀.get? b = some o → (∀ vs, o.data ≠ .fields vs) → ∃ sl, h.get? b = some { o with slots := sl }

/-- an exception that no frame has noted yet -/
def FreshW (base : Heap) (l : List Env) (e : Addr) (cls a0 : Value) (h : Heap) : Prop :=
  base.StaysIn h ∧ base.get? e = none ∧ h.FunFrames base l ∧ ∃ oe vs, h.get? e = some oe ∧ oe.cls = cls ∧ oe.data = .fields vs ∧ vs[0]? = some a0 ∧ vs[1]? = some .none

/-- the same within the raising frame: new or noted -/
def FliesI (G : Heap) (c : Pl) (orel : ORel) (C : Addr) (outer : List Env) (σ : Sg) (h₀ : Heap) (e : Addr) (h : Heap) : Prop :=
  ∃ base a0, (∀ b o, b ∉ c.W → b ∉ outer.filterMap (·.frame) → h₀.get? b = some o → base.get? b = some o) ∧ G.StaysIn base ∧ Run c orel σ base ∧ (Heap.FlyingW base outer e (.ref C) a0 h ∨ FreshW base outer e (.ref C) a0 h) ∧
    ∀ b o, b ∉ c.W → h₀.get? b = some o → (∀ vs, o.data ≠ .fields vs) → ∃ sl, h.get? b = some { o with slots := sl }
theorem Flies.i {G : Heap} {c : Pl} {orel : ORel} {C : Addr} {outer : List Env} {σ : Sg} {h₀ : Heap} {e : Addr} {h : Heap} (x : Flies G c orel C outer σ h₀ e h) : FliesI G c orel C outer σ h₀ e h :=
  let ⟨base, a0, b1, b2, b3, b4, b5⟩ := x; ⟨base, a0, b1, b2, b3, .inl b4, b5⟩

abbrev Tr (α : Type) := (α → Sg → Prop) → (Sg → Prop) → Sg → Prop

/-- a call's contract -/
def Meets (prog : Program) (w : World) (G : Heap) (c : Pl) (orel : ORel) (C : Addr) (dep un : Nat) (f : Value) (args : List Value) {α : Type} (rel : α → Value → Heap → Prop) (t : Tr α) : Prop :=
  ∀ (A : Around) (outer : List Env) (s : Shared) (σ : Sg) (R : Result → Shared → Prop) (Q : α → Sg → Prop) (E : Sg → Prop),
    Ok G c.W A outer s.heap dep un → G.StaysIn s.heap → Run c orel σ s.heap → t Q E σ →
    (∀ a v σ' h' tk, Q a σ' → rel a v h' → G.StaysIn h' → Run c orel σ' h' → Kp c.W s.heap h' → R (.ok (.ret v)) { s with heap := h', toks := tk }) →
    (∀ e σ' h' tk, E σ' → Flies G c orel C outer σ' s.heap e h' → R (.error (.ref e)) { s with heap := h', toks := tk }) →
    codeAny (model prog w) A (.call f ⟨args, []⟩) R s

end Mine
end

section
open PySem PySem.W PySem.Calls PyProof.Rows
set_option Elab.async false
set_option maxRecDepth 100000
namespace Mine


/-- the state within a body -/
structure Bd (G : Heap) (c : Pl) (orel : ORel) (A : Around) (outer : List Env) (env : Env) (L : Addr) (h₀ : Heap) (dep un : Nat) (m : Str → Option Value) (σ : Sg) (h : Heap) : Prop where
  fr : Fr G L h m
  run : Run c orel σ h
  kp : Kp c.W h₀ h
  lw : L ∉ c.W
  new : h₀.get? L = none
  stack : A.frames = some (env :: outer)
  hd : A.handled = none
  dp : A.depth + dep < recursionLimit
  un : A.units + un < cLine
  ef : env.frame = some L
  el : env.locals = L
  ek : env.scope.kind = .function
  gl : G.get? L = none
  ff : FFr G c.W h outer
  nf : L ∉ outer.filterMap (·.frame)

section
variable {prog : Program} {w : World} {G : Heap} {c : Pl} {orel : ORel} {C : Addr} {A : Around} {outer : List Env} {env : Env} {L : Addr} {h₀ h h' : Heap} {dep un : Nat} {m m' : Str → Option Value} {σ σ' : Sg} {E : Value → Shared → Prop} {s : Shared}

theorem Bd.ok (B : Bd G c orel A outer env L h₀ dep un m σ h) : Ok G c.W A (env :: outer) h dep un :=
  ⟨B.stack, B.hd, B.dp, B.un, ⟨by rw [B.ek]; decide, ⟨L, m, B.ef, B.gl, B.lw, B.fr.ns⟩, B.ff⟩, Nat.le_of_lt (Nat.lt_of_le_of_lt B.fr.above B.fr.ns.lt)⟩

theorem Ok.le {G : Heap} {W : List Addr} {A : Around} {outer : List Env} {h : Heap} {dep un dep' un' : Nat} (x : Ok G W A outer h dep un) (hd : dep' ≤ dep) (hu : un' ≤ un) : Ok G W A outer h dep' un' :=
  ⟨x.fr, x.hd, Nat.lt_of_le_of_lt (Nat.add_le_add_left hd _) x.dp, Nat.lt_of_le_of_lt (Nat.add_le_add_left hu _) x.un, x.ff, x.sz⟩

theorem Bd.grow (B : Bd G c orel A outer env L h₀ dep un m σ h) (k : ∀ b o, h.get? b = some o → h'.get? b = some o) : Bd G c orel A outer env L h₀ dep un m σ h' :=
  { B with
    fr := ⟨B.fr.ns.keeps k, fun b o e => k b o (B.fr.keep b o e), B.fr.above⟩
    run := B.run.keeps fun b _ o e => k b o e
    kp := fun b o n e => k b o (B.kp b o n e)
    ff := B.ff.kp (Kp.of_keeps k) }
theorem Bd.push (B : Bd G c orel A outer env L h₀ dep un m σ h) (o : Obj) : Bd G c orel A outer env L h₀ dep un m σ (h.push o) := B.grow fun _ _ e => Heap.get?_push_of_some o e

theorem FFr.off {W : List Addr} {b : Addr} : ∀ {l : List Env}, FFr G W h l → b ∈ l.filterMap (·.frame) → G.get? b = none ∧ b ∉ W ∧ ∃ m, h.Ns b m
  | env :: r, ⟨_, ⟨L, m, b1, b2, b3, b4⟩, rr⟩, hm => by
    rw [List.filterMap_cons, b1] at hm
    rcases List.mem_cons.mp hm with e | hm
    · subst e; exact ⟨b2, b3, m, b4⟩
    · exact FFr.off rr hm

theorem FFr.sameBut {W : List Addr} (hs : Heap.SameBut L h h') : ∀ {l : List Env}, FFr G W h l → L ∉ l.filterMap (·.frame) → FFr G W h' l
  | [], _, _ => trivial
  | _ :: _, ⟨a, ⟨L', m, b1, b2, b3, b4⟩, r⟩, hn => by
    rw [List.filterMap_cons, b1] at hn
    exact ⟨a, ⟨L', m, b1, b2, b3, b4.sameBut hs (fun q => hn (by rw [q]; exact List.mem_cons_self))⟩, FFr.sameBut hs r (fun q => hn (List.mem_cons_of_mem _ q))⟩

theorem FFr.notIn {W : List Addr} (hL : h₀.get? L = none) : ∀ {l : List Env}, FFr G W h₀ l → L ∉ l.filterMap (·.frame) := fun x q => by
  obtain ⟨_, _, m, o, es, ep, e, _⟩ := FFr.off x q
  rw [hL] at e; cases e

end

section
variable {prog : Program} {w : World} {G : Heap} {c : Pl} {orel : ORel} {C : Addr} {A : Around} {outer : List Env} {env : Env} {L : Addr} {h₀ h h' : Heap} {dep un : Nat} {m m' : Str → Option Value} {σ σ' : Sg} {E : Value → Shared → Prop} {s : Shared}

/-- a local is stored -/
theorem bd_store {x : Str} {v : Value} {Q : Unit → Shared → Prop} (B : Bd G c orel A outer env L h₀ dep un m σ s.heap)
    (h : ∀ h', Bd G c orel A outer env L h₀ dep un (fun y => if y = x then some v else m y) σ h' → Q () { s with heap := h', toks := s.toks + 1 })
    (hx : env.kindOf x = some .local := by rfl) : wpAny M A (storeName env x v) Q E s := by
  have hn := B.fr.ns
  rw [← B.el] at hn
  refine wpAny_storeName_local hx hn (fun h' hn' hs => ?_) (by rw [B.ek]; rfl)
  rw [B.el] at hn' hs
  refine h h' { B with fr := B.fr.set hn' hs, run := B.run.keeps fun b hb o e => ?_, kp := fun b o hb e => ?_, ff := B.ff.sameBut hs B.nf }
  · exact (hs.2 b (fun q => B.lw (q ▸ hb))).trans e
  · exact (hs.2 b (fun q => by rw [q, B.new] at e; cases e)).trans (B.kp b o hb e)

/-- a call by its contract -/
theorem bd_call {α : Type} {rel : α → Value → Heap → Prop} {t : Tr α} {dep' un' : Nat} {f : Value} {args : List Value} {Q : Value → Shared → Prop} {Qp : α → Sg → Prop} {Ep : Sg → Prop} (Mt : Meets prog w G c orel C dep' un' f args rel t)
    (B : Bd G c orel A outer env L h₀ dep un m σ s.heap) (hd : dep' ≤ dep) (hu : un' ≤ un) (H : t Qp Ep σ)
    (hX : ∀ e σ' h' tk, Ep σ' → FliesI G c orel C (env :: outer) σ' h₀ e h' → E (.ref e) { s with heap := h', toks := tk })
    (h : ∀ a v σ' h' tk, Qp a σ' → rel a v h' → Bd G c orel A outer env L h₀ dep un m σ' h' → Q v { s with heap := h', toks := tk }) :
    wpAny (model prog w) A (call f args) Q E s := by
  refine wpAny_call (Mt A (env :: outer) s σ _ Qp Ep (B.ok.le hd hu) B.fr.keep B.run H (fun a v σ' h' tk q r g ru k => ?_) fun e σ' h' tk q fl => ?_)
  · exact h a v σ' h' tk q r { B with fr := ⟨k.ns B.lw B.fr.ns, g, B.fr.above⟩, run := ru, kp := B.kp.trans k, ff := B.ff.kp k }
  · obtain ⟨base, a0, b1, b2, b3, b4, b5⟩ := fl
    refine hX e σ' h' tk q ⟨base, a0, fun b o hb hf e => b1 b o hb hf (B.kp b o hb e), b2, b3, .inl b4, fun b o hb e hn => b5 b o hb (B.kp b o hb e) hn⟩

/-- the same, where what comes back is known -/
theorem bd_callE {α : Type} {rf : α → Value} {t : Tr α} {dep' un' : Nat} {f : Value} {args : List Value} {Q : Value → Shared → Prop} {Qp : α → Sg → Prop} {Ep : Sg → Prop} (Mt : Meets prog w G c orel C dep' un' f args (fun a v _ => v = rf a) t)
    (B : Bd G c orel A outer env L h₀ dep un m σ s.heap) (hd : dep' ≤ dep) (hu : un' ≤ un) (H : t Qp Ep σ)
    (hX : ∀ e σ' h' tk, Ep σ' → FliesI G c orel C (env :: outer) σ' h₀ e h' → E (.ref e) { s with heap := h', toks := tk })
    (h : ∀ a σ' h' tk, Qp a σ' → Bd G c orel A outer env L h₀ dep un m σ' h' → Q (rf a) { s with heap := h', toks := tk }) :
    wpAny (model prog w) A (call f args) Q E s := bd_call Mt B hd hu H hX fun a _ σ' h' tk q r b => r ▸ h a σ' h' tk q b

theorem FunFrames.hidden {h' : Heap} {as : List Addr} : ∀ {l : List Env}, FFr G c.W h l → h.StaysIn h' → (∀ e ∈ l, ∀ a, e.frame = some a → a ∈ as) → h'.FunFrames (hideAll h as) l
  | [], _, _, _ => trivial
  | env :: r, ⟨a, ⟨L, m, b1, b2, b3, o, es, ep, b4, b5, _⟩, rr⟩, st, hin => ⟨a, ⟨L, o, b1, hideAll_none _ (hin env (.head _) L b1), st _ _ b4, fun vs q => by rw [b5] at q; cases q⟩, FunFrames.hidden rr st fun e he => hin e (.tail _ he)⟩

theorem fresh_flies {e : Addr} {t1 : Value} {oe : Obj} {vs : Array Value} (B : Bd G c orel A outer env L h₀ dep un m σ h) (st : h.StaysIn h') (hn : h.get? e = none) (he : h'.get? e = some oe) (hc : oe.cls = .ref C) (hd : oe.data = .fields vs) (h0 : vs[0]? = some t1) (h1 : vs[1]? = some .none) :
    FliesI G c orel C (env :: outer) σ h₀ e h' := by
  have ff := B.ok.ff
  have hin : ∀ b o, h.get? b = some o → b ∉ (env :: outer).filterMap (·.frame) → (hideAll h ((env :: outer).filterMap (·.frame))).get? b = some o := fun b o e hb => hideAll_get _ e hb
  refine ⟨hideAll h ((env :: outer).filterMap (·.frame)), t1, fun b o hb hf e => hin b o (B.kp b o hb e) hf, fun b o e => hin b o (B.fr.keep b o e) (fun q => ?_), B.run.keeps fun b hb o e => hin b o e (fun q => (FFr.off ff q).2.1 hb), .inr ⟨fun b o e => st b o (of_hideAll _ e), ?_, FunFrames.hidden ff st (fun e he a ha => List.mem_filterMap.mpr ⟨e, he, ha⟩), oe, vs, he, hc, hd, h0, h1⟩, fun b o hb e _ => ⟨o.slots, st b o (B.kp b o hb e)⟩⟩
  · rw [(FFr.off ff q).1] at e; cases e
  · cases q : (hideAll h ((env :: outer).filterMap (·.frame))).get? e with
    | none => rfl
    | some o' => have := of_hideAll _ q; rw [hn] at this; cases this
end

end Mine
end

section
open PySem PySem.W PySem.Calls PyProof.Rows
set_option Elab.async false
set_option maxRecDepth 100000
namespace Mine

abbrev flowV (fl : Flow) : Value := match fl with | .ret v => v | _ => .none

section
variable {prog : Program} {w : World} {G : Heap} {c : Pl} {orel : ORel} {C : Addr} {A : Around} {outer : List Env} {env : Env} {L : Addr} {h₀ h h' : Heap} {dep un : Nat} {m m' : Str → Option Value} {σ σ' : Sg} {E : Value → Shared → Prop} {s : Shared}

/-- an exception leaves the frame -/
theorem flies_leave {M : Model} {e : Addr} {R : Result → Shared → Prop} (hfr : A.frames = some (env :: outer)) (hf : env.frame = some L) (hnew : h₀.get? L = none) (x : FliesI G c orel C (env :: outer) σ h₀ e s.heap)
    (k : ∀ h', Flies G c orel C outer σ h₀ e h' → R (.error (.ref e)) { s with heap := h' }) :
    wpAny M A (leaving env (.ref e)) (fun _ s'' => R (.error (.ref e)) s'') (fun e' s'' => R (.error e') s'') s := by
  refine hide fun gl9 hg9 => ?_
  obtain ⟨base, a0, b1, b2, b3, b4, b5⟩ := x
  refine hg9 ?_
  clear hg9 gl9
  have fin : ∀ h', Heap.FlyingW base outer e (.ref C) a0 h' → s.heap.UpToSlots h' → R (.error (.ref e)) { s with heap := h' } := by
    intro h' f u
    refine k h' ⟨base, a0, fun b o hb hn e => b1 b o hb ?_ e, b2, b3, f, fun b o hb e hn => ?_⟩
    · intro hm
      rw [List.filterMap_cons, hf] at hm
      rcases List.mem_cons.mp hm with q | q
      · rw [q, hnew] at e; cases e
      · exact hn q
    · obtain ⟨sl, e1⟩ := b5 b o hb e hn
      obtain ⟨sl', e2⟩ := u b _ e1 hn
      exact ⟨sl', e2⟩
  rcases b4 with b4 | ⟨c1, c2, c3, oe, vs, c4, c5, c6, c7, c8⟩
  · exact wpAny_leaves_onW hfr hf b4 fin
  · refine wpAny_leaving_firstW hfr c3 hf c4 c1 c2 c6 c8 c7 fun h' ⟨k1, ⟨_, _, k2⟩, k3, k4⟩ => fin h' ⟨k1, c2, k2, ?_⟩ k4
    rw [← c5]; exact k3

/-- a def's contract from its body -/
theorem meets_fn {α : Type} {rel : α → Value → Heap → Prop} {t : Tr α} {f : Addr} {fo : Obj} {args : List Value} {name qual : Str} {params : Arguments} {body : List Stmt} {scope : Scope} {cl : List (Str × Addr)} {dV kV doc pm cdv ct : Value} {an : Option Addr} {binds : List (Str × Value)}
    (hG : G.NoLimit) (hW : ∀ a ∈ c.W, G.get? a = none) (ho : G.get? f = some fo) (hdat : fo.data = .func (fnX name qual params body scope cl dV kV doc pm an cdv ct)) (hcd : G.CodeRec cdv qual)
    (hbind : ∀ s : Shared, G.StaysIn s.heap → BindsTo s (fnX name qual params body scope cl dV kV doc pm an cdv ct) ⟨args, []⟩ binds) (hloc : ∀ y ∈ binds, scope.names.lookup y.1 = some .local)
    (hcell : ∀ x ∈ scope.names, x.2 ≠ .cell) (hco : scope.isCoroutine = false) (hgen : scope.isGenerator = false) (hk : scope.kind = .function)
    (bd : ∀ (A : Around) (outer : List Env) (L : Addr) (h₀ : Heap) (s : Shared) (σ : Sg) (Q : α → Sg → Prop) (E : Sg → Prop) (Qb : Flow → Shared → Prop) (Eb : Value → Shared → Prop),
      Bd G c orel A outer (envX qual scope L f cdv cl) L h₀ dep un (fun y => binds.reverse.lookup y) σ s.heap → t Q E σ →
      (∀ fl a σ' h' tk, Q a σ' → rel a (flowV fl) h' → G.StaysIn h' → Run c orel σ' h' → Kp c.W h₀ h' → Qb fl { s with heap := h', toks := tk }) →
      (∀ e σ' h' tk, E σ' → FliesI G c orel C (envX qual scope L f cdv cl :: outer) σ' h₀ e h' → Eb (.ref e) { s with heap := h', toks := tk }) →
      PassesOwn (model prog w) A (envX qual scope L f cdv cl) Eb →
      wpAny (model prog w) A (execs body (envX qual scope L f cdv cl)) Qb Eb s) :
    Meets prog w G c orel C (dep + 1) (un + 3) (.ref f) args rel t := by
  intro A outer s σ R Q E ok st run H hQ hE
  have hLW : s.heap.objs.size ∉ c.W := fun q => by
    have : ∀ a ∈ c.W, a < s.heap.objs.size := by
      intro a ha
      have hr := run
      obtain ⟨⟨n1, p⟩, ⟨vs, ⟨n2, s1⟩, _⟩, ⟨n3, hh⟩, ⟨n4, kk⟩, ⟨vo, ⟨n5, o1⟩, _⟩, _⟩ := hr
      simp only [Pl.W, List.mem_cons, List.not_mem_nil, or_false] at ha
      rcases ha with rfl | rfl | rfl | rfl | rfl
      · exact Heap.lt_size p
      · exact Heap.lt_size s1
      · exact Heap.lt_size hh
      · exact Heap.lt_size kk
      · exact Heap.lt_size o1
    exact Nat.lt_irrefl _ (this _ q)
  have hGL : G.get? s.heap.objs.size = none := st.fresh
  have hLn : s.heap.get? s.heap.objs.size = none := Heap.get?_none_of_le (Nat.le_refl _)
  refine codeAny_call_def (fd := fnX name qual params body scope cl dV kV doc pm an cdv ct) (body := body) (binds := binds) (Nat.lt_of_le_of_lt (Nat.le_add_right _ _) ok.dp) (st _ _ ho) hdat (hG.keeps st) (hcd.keeps st) rfl (hbind s st) hcell hloc (fun h₁ hns hk₁ => ?_) hco hgen hk
  refine bd (A.deeper (envX qual scope s.heap.objs.size f cdv cl)) outer s.heap.objs.size s.heap { s with heap := h₁, toks := s.toks + binds.length } σ Q E _ _ ?_ H (fun fl a σ' h' tk q r g ru k => ?_) (fun e σ' h' tk q fl => ?_) PassesOwn.leaving
  · refine ⟨⟨hns, fun b o e => hk₁ b o (st b o e), ?_⟩, run.keeps fun b _ o e => hk₁ b o e, Kp.of_keeps hk₁, hLW, hLn, Around.frames_deeper ok.fr, ok.hd, ?_, ?_, rfl, rfl, hk, hGL, ok.ff.kp (Kp.of_keeps hk₁), FFr.notIn hLn ok.ff⟩
    · exact ok.sz
    · have := ok.dp; show A.depth + 1 + dep < _; lia
    · have := ok.un; show A.units + 3 + un < _; lia
  · cases fl <;> exact hQ a _ σ' h' tk q r g ru k
  · refine flies_leave (s := { s with heap := h', toks := tk }) (Around.frames_deeper ok.fr) rfl hLn fl fun h'' fl' => hE e σ' h'' tk q fl'
end

end Mine
end

section
open PySem PySem.W PySem.Calls PyProof.Rows
set_option Elab.async false
set_option maxRecDepth 100000
namespace Mine

theorem instAt_keeps {h h' : Heap} {x C : Addr} {ox : Obj} {od : Option Obj} (k : ∀ b o, h.get? b = some o → h'.get? b = some o) (I : InstAt h x ox C od) : InstAt h' x ox C od := by
  refine hide fun gl9 hg9 => ?_
  obtain ⟨a, b, cc, d⟩ := I
  refine hg9 ?_
  clear hg9 gl9
  refine ⟨k _ _ a, b, cc, ?_⟩
  cases e : ox.dict with
  | none =>
    rw [e] at d
    cases od with
    | none => trivial
    | some o => exact d.elim
  | some dx =>
    rw [e] at d
    cases od with
    | none => exact d.elim
    | some o => exact k _ _ d

theorem fnAt_keeps {h h' : Heap} {q : Addr} (k : ∀ b o, h.get? b = some o → h'.get? b = some o) (x : FnAt q h) : FnAt q h' := let ⟨oc, od, fd, sl, e⟩ := x; ⟨oc, od, fd, sl, k _ _ e⟩

/-- a field of the object's own holds the def f -/
structure OwnAt (K : Frag) (G : Heap) (x : Addr) (CQ : Addr) (name : Str) (f : Addr) : Prop where
  inst : ∃ ox es n, InstAt G x ox CQ (some (dictOf es n)) ∧ getL name es = some (some (.ref f))
  pg : plainGet K CQ name = true
  hh : hasDictIn K CQ = true
  hf : findIn K (.ref CQ) name = some none
  fn : FnAt f G

/-- a method of the class -/
structure MethAt (K : Frag) (G : Heap) (x : Addr) (CQ : Addr) (name : Str) (f : Addr) : Prop where
  inst : ∃ ox es n, InstAt G x ox CQ (some (dictOf es n)) ∧ getL name es = some none
  pg : plainGet K CQ name = true
  hf : findIn K (.ref CQ) name = some (some (.ref f))
  ht : isFn K (.ref f) = true
  fn : FnAt f G

section
variable {prog : Program} {w : World} {K : Frag} {G : Heap} {A : Around} {E : Value → Shared → Prop} {s : Shared} {x CQ f : Addr} {name : Str} {pl : Sem Bool} {pos : Pos} {L a : Addr} {m : Str → Option Value} {cn : Str} {cs : Scope} {ccd : Value} {cl : List (Str × Addr)} {Q : Value → Shared → Prop}

theorem gm_own {Q : Value × List Value → Shared → Prop} (X : K.In G) (st : G.StaysIn s.heap) (o : OwnAt K G x CQ name f) (h : Q (.ref f, []) { s with toks := s.toks + 1 }) : wpAny (model prog w) A (getMethod (.ref x) name pl) Q E s := by
  refine hide fun gl9 hg9 => ?_
  obtain ⟨ox, es, n, I, hl⟩ := o.inst
  refine hg9 ?_
  clear hg9 gl9
  have I' := instAt_keeps st I
  refine method_usual (X.keeps st) I' (plainGet_of o.pg).1 (plainGet_of o.pg).2 o.hf rfl ?_
  exact get_value (X.keeps st) I' (plainGet_of o.pg).1 (findObj_own o.hh o.hf rfl (by rw [lookIn_dict]; exact hl)) rfl h

theorem gm_meth {Q : Value × List Value → Shared → Prop} (X : K.In G) (st : G.StaysIn s.heap) (o : MethAt K G x CQ name f) (h : Q (.ref f, [.ref x]) s) : wpAny (model prog w) A (getMethod (.ref x) name pl) Q E s := by
  refine hide fun gl9 hg9 => ?_
  obtain ⟨ox, es, n, I, hl⟩ := o.inst
  refine hg9 ?_
  clear hg9 gl9
  have I' := instAt_keeps st I
  exact method_fn (X.keeps st) I' (plainGet_of o.pg).1 (plainGet_of o.pg).2 o.hf (beq_iff_eq.mp o.ht) (by show (lookIn name (dictOf es n)).map _ = _; rw [lookIn_dict, hl]; rfl) h

theorem self_own {sp : Pos} {e : Expr} {rest : List Expr} (X : K.In G) (F : Fr G L s.heap m) (hx : m "self" = some (.ref x)) (o : OwnAt K G x CQ name f)
    (h : wpAny (model prog w) A (spliced (backTo pos (starEach (e :: rest) (envX cn cs L a ccd cl)))) (fun vs s₁ => G.StaysIn s₁.heap ∧ wpAny (model prog w) A (call (.ref f) vs) Q E s₁) E { s with toks := s.toks + 1 })
    (he : starEach (e :: rest) (envX cn cs L a ccd cl) = (false, eval e (envX cn cs L a ccd cl)) :: starEach rest (envX cn cs L a ccd cl) := by rfl) (hplain : (backTo pos (starEach rest (envX cn cs L a ccd cl))).any (·.1) = false := by rfl)
    (hk : cs.kind = .function := by rfl) (hkx : (envX cn cs L a ccd cl).kindOf "self" = some .local := by rfl) :
    wpAny (model prog w) A (eval (.Name "self" sp) (envX cn cs L a ccd cl)) (fun ov s₁ => wpAny (model prog w) A (getMethod ov name pl) (fun fx s₂ => wpAny (model prog w) A (callWith pos fx.1 fx.2 (backTo pos (starEach (e :: rest) (envX cn cs L a ccd cl))) []) Q E s₂) E s₁) E s := by
  refine nameX_L F hx (gm_own X F.keep o ?_) hk hkx
  refine callWith_F (first := []) (s := { s with toks := s.toks + 1 }) (fnAt_keeps F.keep o.fn) (wpAny_mono h (fun vs s₁ z => ⟨fnAt_keeps z.1 o.fn, z.2⟩) fun _ _ z => z) he hplain

theorem self_own0 {sp : Pos} (X : K.In G) (F : Fr G L s.heap m) (hx : m "self" = some (.ref x)) (o : OwnAt K G x CQ name f)
    (h : wpAny (model prog w) A (call (.ref f) []) Q E { s with toks := s.toks + 1 })
    (hk : cs.kind = .function := by rfl) (hkx : (envX cn cs L a ccd cl).kindOf "self" = some .local := by rfl) :
    wpAny (model prog w) A (eval (.Name "self" sp) (envX cn cs L a ccd cl)) (fun ov s₁ => wpAny (model prog w) A (getMethod ov name pl) (fun fx s₂ => wpAny (model prog w) A (callWith pos fx.1 fx.2 (backTo pos (starEach [] (envX cn cs L a ccd cl))) []) Q E s₂) E s₁) E s := by
  refine nameX_L F hx (gm_own X F.keep o ?_) hk hkx
  exact callWith_F0 (first := []) (s := { s with toks := s.toks + 1 }) (fnAt_keeps F.keep o.fn) h

theorem self_meth {sp : Pos} {e : Expr} {rest : List Expr} (X : K.In G) (F : Fr G L s.heap m) (hx : m "self" = some (.ref x)) (o : MethAt K G x CQ name f)
    (h : wpAny (model prog w) A (spliced (backTo pos (starEach (e :: rest) (envX cn cs L a ccd cl)))) (fun vs s₁ => G.StaysIn s₁.heap ∧ wpAny (model prog w) A (call (.ref f) (.ref x :: vs)) Q E s₁) E s)
    (he : starEach (e :: rest) (envX cn cs L a ccd cl) = (false, eval e (envX cn cs L a ccd cl)) :: starEach rest (envX cn cs L a ccd cl) := by rfl) (hplain : (backTo pos (starEach rest (envX cn cs L a ccd cl))).any (·.1) = false := by rfl)
    (hk : cs.kind = .function := by rfl) (hkx : (envX cn cs L a ccd cl).kindOf "self" = some .local := by rfl) :
    wpAny (model prog w) A (eval (.Name "self" sp) (envX cn cs L a ccd cl)) (fun ov s₁ => wpAny (model prog w) A (getMethod ov name pl) (fun fx s₂ => wpAny (model prog w) A (callWith pos fx.1 fx.2 (backTo pos (starEach (e :: rest) (envX cn cs L a ccd cl))) []) Q E s₂) E s₁) E s := by
  refine nameX_L F hx (gm_meth X F.keep o ?_) hk hkx
  exact callWith_F (first := [.ref x]) (fnAt_keeps F.keep o.fn) (wpAny_mono h (fun vs s₁ z => ⟨fnAt_keeps z.1 o.fn, z.2⟩) fun _ _ z => z) he hplain
end

/-! the transformers -/
def tPure {α : Type} (a : α) : Tr α := fun Q _ σ => Q a σ
def tBind {α β : Type} (t : Tr α) (f : α → Tr β) : Tr β := fun Q E σ => t (fun a σ' => f a Q E σ') E σ
def tRaise {α : Type} : Tr α := fun _ E σ => E σ
def lim : Nat := 1000000
def tGet (i : Int) : Tr Value := fun Q _ σ => 0 ≤ i ∧ σ.n < lim ∧ ∃ v, σ.P[i.toNat]? = some v ∧ (VOk v → Q v { σ with S := σ.S ++ [i], n := σ.n + 1 })
def tPut (i : Int) (v : Value) : Tr Unit := fun Q _ σ => 0 ≤ i ∧ i.toNat < σ.P.length ∧ σ.n < lim ∧ VOk v ∧ Q () { σ with S := σ.S ++ [i], P := σ.P.set i.toNat v, n := σ.n + 1 }
def tHold (v : Value) : Tr Unit := fun Q _ σ => σ.n < lim ∧ VOk v ∧ Q () { σ with H := σ.H ++ [v], K := σ.K ++ [v], n := σ.n + 1 }
def tDrop : Tr Unit := fun Q _ σ => σ.H ≠ [] ∧ σ.n < lim ∧ Q () { σ with H := σ.H.dropLast, n := σ.n + 1 }

section
variable (tl : Value → Value → Tr Bool)
def tTwo (low high : Int) : Tr Unit := tBind (tGet low) fun one => tBind (tGet high) fun other => tBind (tl other one) fun b => if b then tBind (tPut low other) fun _ => tPut high one else tPure ()
def tMid (low middle high : Int) : Tr Unit := tBind (tGet middle) fun one => tBind (tGet low) fun first => tBind (tl one first) fun b =>
  if b then tBind (tPut middle first) fun _ => tPut low one
  else tBind (tGet high) fun last => tBind (tl last one) fun b => if b then tBind (tPut middle last) fun _ => tPut high one else tPure ()
def tUpW (pivot : Value) (high : Int) : Nat → Int → Value → Tr (Int × Value)
  | 0, _, _ => fun _ _ _ => False
  | n + 1, i, v => tBind (tl v pivot) fun b => if b then (if high < i then tRaise else tBind (tGet (i + 1)) fun v' => tUpW pivot high n (i + 1) v') else tPure (i, v)
def tUp (n : Nat) (pivot : Value) (i high : Int) : Tr (Int × Value) := tBind (tGet (i + 1)) fun v => tUpW tl pivot high n (i + 1) v
def tDownW (pivot : Value) (low : Int) : Nat → Int → Value → Tr (Int × Value)
  | 0, _, _ => fun _ _ _ => False
  | n + 1, i, v => tBind (tl pivot v) fun b => if b then (if i < low then tRaise else tBind (tGet (i - 1)) fun v' => tDownW pivot low n (i - 1) v') else tPure (i, v)
def tDown (n : Nat) (pivot : Value) (i low : Int) : Tr (Int × Value) := tBind (tGet (i - 1)) fun v => tDownW tl pivot low n (i - 1) v
def tPartW (n : Nat) (pivot : Value) (low high : Int) : Nat → Int → Int → Tr Int
  | 0, _, _ => fun _ _ _ => False
  | k + 1, up, down => tBind (tUp tl n pivot up high) fun uv => tBind (tHold uv.2) fun _ => tBind (tDown tl n pivot down low) fun dv => tBind tDrop fun _ =>
      if dv.1 < uv.1 then tPure uv.1 else tBind (tPut uv.1 dv.2) fun _ => tBind (tPut dv.1 uv.2) fun _ => tPartW n pivot low high k uv.1 dv.1
def tPart (n : Nat) (low high : Int) : Tr Int := tBind (tGet ((low + high) / 2)) fun pivot => tBind (tGet (high - 1)) fun x => tBind (tPut ((low + high) / 2) x) fun _ => tBind (tPut (high - 1) pivot) fun _ =>
  tBind (tPartW tl n pivot low high n low (high - 1)) fun up => tBind (tGet (high - 1)) fun last => tBind (tGet up) fun here => tBind (tPut (high - 1) here) fun _ => tBind (tPut up last) fun _ => tPure up
def tSort (n : Nat) : Nat → Int → Int → Tr Unit
  | 0, _, _ => fun _ _ _ => False
  | k + 1, low, high => if low < high then
      tBind (tTwo tl low high) fun _ => if high - low = 1 then tPure () else
      tBind (tMid tl low ((low + high) / 2) high) fun _ => if high - low = 2 then tPure () else
      tBind (tPart tl n low high) fun seam => if seam - low < high - seam then tBind (tSort n k low (seam - 1)) fun _ => tSort n k (seam + 1) high
        else tBind (tSort n k (seam + 1) high) fun _ => tSort n k low (seam - 1)
    else tPure ()
end

end Mine
end

section
open PySem PySem.W PySem.Calls PyProof.Rows
set_option Elab.async false
set_option maxRecDepth 100000
namespace Mine

section
variable {prog : Program} {w : World} {G : Heap} {c : Pl} {orel : ORel} {C : Addr} {A : Around} {outer : List Env} {env : Env} {L : Addr} {h₀ h h' : Heap} {dep un : Nat} {m m' : Str → Option Value} {σ σ' : Sg} {E : Value → Shared → Prop} {s : Shared}

theorem bd_newTuple {vs : List Value} {Q : Value → Shared → Prop} (B : Bd G c orel A outer env L h₀ dep un m σ s.heap)
    (h : ∀ t h', Bd G c orel A outer env L h₀ dep un m σ h' → IsTup h' t vs.toArray → Q (.ref t) { s with heap := h' }) (hsz : vs.length ≤ sizeLine := by size_fits) : wpAny (model prog w) A (newTuple vs) Q E s := by
  refine wpAny_newObj_type (h _ _ (B.push _) ⟨_, Heap.get?_push_size _ rfl, rfl, _, rfl⟩) ?_
  show vs.toArray.size ≤ sizeLine
  rw [List.size_toArray]; exact hsz

theorem bd_unpack {t : Addr} {items : Array Value} {n : Nat} {Q : List Value → Shared → Prop} (B : Bd G c orel A outer env L h₀ dep un m σ s.heap) (ht : IsTup s.heap t items) (hn : n = items.size)
    (h : ∀ h', Bd G c orel A outer env L h₀ dep un m σ h' → Q items.toList { s with heap := h' }) : wpAny (model prog w) A (unpackItems (.ref t) n none) Q E s := by
  subst hn
  exact unpackItems_tuple B.hd ht fun h' he => h h' (B.grow fun b o e => he b o (Nat.ne_of_lt (Heap.lt_size e)) e)

/-- a, b = (v, u): the pair is stored from behind -/
theorem bd_pair {n1 n2 : Str} {v1 v2 : Value} {Q : Unit → Shared → Prop} (B : Bd G c orel A outer env L h₀ dep un m σ s.heap)
    (h : ∀ h', Bd G c orel A outer env L h₀ dep un (fun y => if y = n1 then some v1 else if y = n2 then some v2 else m y) σ h' → Q () { s with heap := h', toks := s.toks + 2 })
    (h1 : env.kindOf n1 = some .local := by rfl) (h2 : env.kindOf n2 = some .local := by rfl) :
    wpAny (model prog w) A (newTuple [v1, v2]) (fun v s₁ => wpAny (model prog w) A (unpackItems v [n1, n2].length none) (fun items s₂ =>
      wpAny (model prog w) A (assignInOrder ([n1, n2].reverse.map fun n => bindName env n) items.reverse) Q E s₂) E s₁) E s := by
  refine bd_newTuple B (fun t h' B ht => ?_)
  refine bd_unpack (s := { s with heap := h' }) B ht rfl fun h'' B => ?_
  refine assignInOrder_cons (wpAny_bindName ?_)
  refine bd_store (s := { s with heap := h'' }) B (fun h3 B => ?_) h2
  refine assignInOrder_cons (wpAny_bindName ?_)
  exact bd_store (s := { s with heap := h3, toks := s.toks + 1 }) B (fun h4 B => wpAny_pure (h h4 B)) h1

/-- a, b = t: a tuple that came back -/
theorem bd_pairOf {n1 n2 : Str} {p1 p2 tp : Pos} {k : Nat} {v1 v2 : Value} {t : Addr} {Q : Unit → Shared → Prop} (B : Bd G c orel A outer env L h₀ dep un m σ s.heap) (ht : IsTup s.heap t #[v1, v2])
    (h : ∀ h', Bd G c orel A outer env L h₀ dep un (fun y => if y = n2 then some v2 else if y = n1 then some v1 else m y) σ h' → Q () { s with heap := h', toks := s.toks + 2 })
    (h1 : env.kindOf n1 = some .local := by rfl) (h2 : env.kindOf n2 = some .local := by rfl) :
    wpAny (model prog w) A (assign (.Tuple [.Name n1 p1, .Name n2 p2] k tp) env (.ref t)) Q E s := by
  refine assign_Tuple_tuple (items := #[v1, v2]) B.hd ht rfl rfl fun h' he => ?_
  have B' : Bd G c orel A outer env L h₀ dep un m σ h' := B.grow fun b o e => he b o (Nat.ne_of_lt (Heap.lt_size e)) e
  refine assignInOrder_cons (PyProof.Rows.assign_Name ?_)
  refine bd_store (s := { s with heap := h' }) B' (fun h3 B => ?_) h1
  refine assignInOrder_cons (PyProof.Rows.assign_Name ?_)
  exact bd_store (s := { s with heap := h3, toks := s.toks + 1 }) B (fun h4 B => wpAny_pure (h h4 B)) h2

/-- a while by a measure -/
theorem while_I {test : Expr} {body : List Stmt} {pos : Pos} {Q : Flow → Shared → Prop} (I : Nat → Shared → Prop)
    (turn : ∀ n s, I n s → wpAny (model prog w) A (isTrue test env (eval test env)) (fun b s₂ => if b = true then wpAny (model prog w) A (execs body env) (fun f s₃ => match f with
        | .next | .cont => ∃ m, m < n ∧ I m s₃
        | .brk => Q .next s₃
        | .ret v => Q (.ret v) s₃) E s₂ else Q .next s₂) E s)
    (hE : PassesOwn (model prog w) A env E) (n : Nat) (h : I n s) :
    wpAny (model prog w) A (exec (.While test body [] pos) env) Q E s := by
  refine wpAny_While (codeAny_whileLoop I (fun n s' hI => ?_) n h)
  refine wpAny_mono (turn n s' hI) (fun b s₂ h₂ => ?_) hE
  cases b with
  | false =>
    simp only [Bool.false_eq_true, if_false] at h₂ ⊢
    exact wpAny_execs_nil h₂
  | true =>
    simp only [if_true] at h₂ ⊢
    refine wpAny_mono h₂ (fun f s₃ h₃ => ?_) hE
    cases f <;> exact h₃
end
end Mine
end

section
open PySem PySem.W PyProof.Rows
set_option Elab.async false
namespace Mine
set_option maxRecDepth 100000 in
set_option maxHeartbeats 8000000 in
open_top hd for PySem.Challenge.rw_nt0631_01
end Mine
end

section
open PySem PySem.W PySem.Calls PyProof.Rows
set_option Elab.async false
set_option maxRecDepth 100000
namespace Mine

noncomputable abbrev KF (w : World) : Frag := hd.heap_39 w.params

/-- the object sorts by these defs -/
structure Qs (w : World) (G : Heap) (x : Addr) (fg fp fl fh fd : Addr) : Prop where
  X : (KF w).In G
  T : ∃ p loose mg mb, TopRead p loose mg mb G
  inst : ∃ ox es n, InstAt G x ox 93 (some (dictOf es n)) ∧ getL "get" es = some (some (.ref fg)) ∧ getL "put" es = some (some (.ref fp)) ∧ getL "less" es = some (some (.ref fl)) ∧ getL "hold" es = some (some (.ref fh)) ∧ getL "drop" es = some (some (.ref fd)) ∧
    getL "order_two" es = some none ∧ getL "order_middle" es = some none ∧ getL "go_up" es = some none ∧ getL "go_down" es = some none ∧ getL "part" es = some none ∧ getL "sort" es = some none
  ng : FnAt fg G
  np : FnAt fp G
  nle : FnAt fl G
  nh : FnAt fh G
  nd : FnAt fd G

theorem Qs.nl {w : World} {G : Heap} {x fg fp fl fh fd : Addr} (S : Qs w G x fg fp fl fh fd) : G.NoLimit := let ⟨_, _, _, _, T⟩ := S.T; T.nolimit

set_option maxHeartbeats 400000 in
theorem pg93 (w : World) (name : Str) : plainGet (KF w) 93 name = true := by kernel_rfl
set_option maxHeartbeats 400000 in
theorem hh93 (w : World) : hasDictIn (KF w) 93 = true := by kernel_rfl
set_option maxHeartbeats 400000 in
theorem f93_get (w : World) : findIn (KF w) (.ref 93) "get" = some none := by kernel_rfl
set_option maxHeartbeats 400000 in
theorem f93_two (w : World) : findIn (KF w) (.ref 93) "order_two" = some (some (.ref 55)) := by kernel_rfl
set_option maxHeartbeats 400000 in
theorem fn55 (w : World) : isFn (KF w) (.ref 55) = true := by kernel_rfl

end Mine
end

section
open PySem PySem.W PySem.Calls PyProof.Rows
set_option Elab.async false
set_option maxRecDepth 100000
namespace Mine

section
variable {prog : Program} {w : World} {G : Heap} {c : Pl} {orel : ORel} {x fg fp fl fh fd : Addr} {dep un : Nat}

theorem Qs.get (S : Qs w G x fg fp fl fh fd) : OwnAt (KF w) G x 93 "get" fg := ⟨S.inst.imp fun _ h => h.imp fun _ h => h.imp fun _ h => ⟨h.1, h.2.1⟩, pg93 w _, hh93 w, by kernel_rfl, S.ng⟩
theorem Qs.put (S : Qs w G x fg fp fl fh fd) : OwnAt (KF w) G x 93 "put" fp := ⟨S.inst.imp fun _ h => h.imp fun _ h => h.imp fun _ h => ⟨h.1, h.2.2.1⟩, pg93 w _, hh93 w, by kernel_rfl, S.np⟩
theorem Qs.less (S : Qs w G x fg fp fl fh fd) : OwnAt (KF w) G x 93 "less" fl := ⟨S.inst.imp fun _ h => h.imp fun _ h => h.imp fun _ h => ⟨h.1, h.2.2.2.1⟩, pg93 w _, hh93 w, by kernel_rfl, S.nle⟩

abbrev relV : Value → Value → Heap → Prop := fun a v _ => v = a
abbrev relU : Unit → Value → Heap → Prop := fun _ v _ => v = .none
abbrev relB : Bool → Value → Heap → Prop := fun b v _ => v = .bool b

/-- what the five callables do -/
structure Cs (prog : Program) (w : World) (G : Heap) (c : Pl) (orel : ORel) (tl : Value → Value → Tr Bool) (fg fp fl fh fd : Addr) : Prop where
  get : ∀ i t, Meets prog w G c orel 31 20 100 (.ref fg) [.int i t] relV (tGet i)
  put : ∀ i t v, Meets prog w G c orel 31 20 100 (.ref fp) [.int i t, v] relU (tPut i v)
  less : ∀ a b, Meets prog w G c orel 31 20 100 (.ref fl) [a, b] relB (tl a b)
  hold : ∀ a, Meets prog w G c orel 31 20 100 (.ref fh) [a] relU (tHold a)
  drop : Meets prog w G c orel 31 20 100 (.ref fd) [] relU tDrop

variable {tl : Value → Value → Tr Bool}

theorem isTrue_plain {M : Model} {A : Around} {E : Value → Shared → Prop} {s : Shared} {env : Env} {e : Expr} {whole : Sem Value} {Q : Bool → Shared → Prop} (h : wpAny M A whole (fun v s₁ => wpAny M A (truthy v) Q E s₁) E s)
    (he : isTrue e env whole = (do let v ← whole; standAt e.pos; holding [v] (truthy v)) := by rfl) : wpAny M A (isTrue e env whole) Q E s := by
  rw [he]
  exact wpAny_bind (wpAny_mono h (fun v s₁ h₁ => wpAny_bind (wpAny_standAt (wpAny_holding h₁))) fun _ _ x => x)

set_option maxHeartbeats 4000000 in
theorem two_meets (S : Qs w G x fg fp fl fh fd) (D : Cs prog w G c orel tl fg fp fl fh fd) (hW : ∀ a ∈ c.W, G.get? a = none) (low high : Int) (t u : Tok) :
    Meets prog w G c orel 31 30 200 (.ref 55) [.ref x, .int low t, .int high u] relU (tTwo tl low high) := by
  refine meets_fn (dep := 29) (un := 197) (binds := [("self", _), ("low", _), ("high", _)]) S.nl hW (S.X _ _ (by rfl)) rfl (codeRec_of S.X (by kernel_rfl)) (fun s st => BindsTo.of_eq rfl) (locs rfl) (by decide) rfl rfl rfl ?_
  intro A outer L h₀ s σ Q E Qb Eb B H hQ hX hP
  refine wpAny_execs_cons ?_
  refine Assign_Tuple_swapped (names := ["one", "other"]) ?_
  refine Tuple_ ?_
  refine args_cons ?_
  refine MethodCall_ ?_
  refine self_own S.X B.fr rfl S.get ?_
  refine args_cons ?_
  refine nameX_L B.fr rfl ?_
  refine args_nil ?_
  refine ⟨B.fr.keep, bd_callE (D.get _ _) B (by decide) (by decide) H hX (fun one _ _ _ H B => ?_)⟩
  refine args_cons ?_
  refine MethodCall_ ?_
  refine self_own S.X B.fr rfl S.get ?_
  refine args_cons ?_
  refine nameX_L B.fr rfl ?_
  refine args_nil ?_
  refine ⟨B.fr.keep, bd_callE (D.get _ _) B (by decide) (by decide) H hX (fun other _ _ _ H B => ?_)⟩
  refine args_nil ?_
  refine bd_pair B (fun _ B => ?_)
  refine wpAny_execs_cons ?_
  refine wpAny_If ?_
  refine isTrue_plain ?_
  refine MethodCall_ ?_
  refine self_own S.X B.fr rfl S.less ?_
  refine args_cons ?_
  refine nameX_L B.fr rfl ?_
  refine args_cons ?_
  refine nameX_L B.fr rfl ?_
  refine args_nil ?_
  refine ⟨B.fr.keep, bd_callE (D.less _ _) B (by decide) (by decide) H hX (fun b _ _ _ H B => ?_)⟩
  refine wpAny_truthy_bool ?_
  cases b with
  | true =>
    simp only [↓reduceIte] at H
    refine wpAny_execs_cons ?_
    refine wpAny_Expr ?_
    refine MethodCall_ ?_
    refine self_own S.X B.fr rfl S.put ?_
    refine args_cons ?_
    refine nameX_L B.fr rfl ?_
    refine args_cons ?_
    refine nameX_L B.fr rfl ?_
    refine args_nil ?_
    refine ⟨B.fr.keep, bd_callE (D.put _ _ _) B (by decide) (by decide) H hX (fun _ _ _ _ H B => ?_)⟩
    refine wpAny_execs_cons ?_
    refine wpAny_Expr ?_
    refine MethodCall_ ?_
    refine self_own S.X B.fr rfl S.put ?_
    refine args_cons ?_
    refine nameX_L B.fr rfl ?_
    refine args_cons ?_
    refine nameX_L B.fr rfl ?_
    refine args_nil ?_
    refine ⟨B.fr.keep, bd_callE (D.put _ _ _) B (by decide) (by decide) H hX (fun _ _ _ _ H B => ?_)⟩
    refine wpAny_execs_nil ?_
    refine wpAny_execs_nil ?_
    exact hQ _ () _ _ _ H rfl B.fr.keep B.run B.kp
  | false =>
    simp only [Bool.false_eq_true, ↓reduceIte] at H
    refine wpAny_execs_nil ?_
    refine wpAny_execs_nil ?_
    exact hQ _ () _ _ _ H rfl B.fr.keep B.run B.kp

set_option maxHeartbeats 4000000 in
theorem mid_meets (S : Qs w G x fg fp fl fh fd) (D : Cs prog w G c orel tl fg fp fl fh fd) (hW : ∀ a ∈ c.W, G.get? a = none) (low middle high : Int) (t v u : Tok) :
    Meets prog w G c orel 31 30 200 (.ref 62) [.ref x, .int low t, .int middle v, .int high u] relU (tMid tl low middle high) := by
  refine meets_fn (dep := 29) (un := 197) (binds := [("self", _), ("low", _), ("middle", _), ("high", _)]) S.nl hW (S.X _ _ (by rfl)) rfl (codeRec_of S.X (by kernel_rfl)) (fun s st => BindsTo.of_eq rfl) (locs rfl) (by decide) rfl rfl rfl ?_
  intro A outer L h₀ s σ Q E Qb Eb B H hQ hX hP
  refine wpAny_execs_cons ?_
  refine Assign_Tuple_swapped (names := ["one", "first"]) ?_
  refine Tuple_ ?_
  refine args_cons ?_
  refine MethodCall_ ?_
  refine self_own S.X B.fr rfl S.get ?_
  refine args_cons ?_
  refine nameX_L B.fr rfl ?_
  refine args_nil ?_
  refine ⟨B.fr.keep, bd_callE (D.get _ _) B (by decide) (by decide) H hX (fun one _ _ _ H B => ?_)⟩
  refine args_cons ?_
  refine MethodCall_ ?_
  refine self_own S.X B.fr rfl S.get ?_
  refine args_cons ?_
  refine nameX_L B.fr rfl ?_
  refine args_nil ?_
  refine ⟨B.fr.keep, bd_callE (D.get _ _) B (by decide) (by decide) H hX (fun first _ _ _ H B => ?_)⟩
  refine args_nil ?_
  refine bd_pair B (fun _ B => ?_)
  refine wpAny_execs_cons ?_
  refine wpAny_If ?_
  refine isTrue_plain ?_
  refine MethodCall_ ?_
  refine self_own S.X B.fr rfl S.less ?_
  refine args_cons ?_
  refine nameX_L B.fr rfl ?_
  refine args_cons ?_
  refine nameX_L B.fr rfl ?_
  refine args_nil ?_
  refine ⟨B.fr.keep, bd_callE (D.less _ _) B (by decide) (by decide) H hX (fun b _ _ _ H B => ?_)⟩
  refine wpAny_truthy_bool ?_
  cases b with
  | true =>
    simp only [↓reduceIte] at H
    refine wpAny_execs_cons ?_
    refine wpAny_Expr ?_
    refine MethodCall_ ?_
    refine self_own S.X B.fr rfl S.put ?_
    refine args_cons ?_
    refine nameX_L B.fr rfl ?_
    refine args_cons ?_
    refine nameX_L B.fr rfl ?_
    refine args_nil ?_
    refine ⟨B.fr.keep, bd_callE (D.put _ _ _) B (by decide) (by decide) H hX (fun _ _ _ _ H B => ?_)⟩
    refine wpAny_execs_cons ?_
    refine wpAny_Expr ?_
    refine MethodCall_ ?_
    refine self_own S.X B.fr rfl S.put ?_
    refine args_cons ?_
    refine nameX_L B.fr rfl ?_
    refine args_cons ?_
    refine nameX_L B.fr rfl ?_
    refine args_nil ?_
    refine ⟨B.fr.keep, bd_callE (D.put _ _ _) B (by decide) (by decide) H hX (fun _ _ _ _ H B => ?_)⟩
    refine wpAny_execs_cons ?_
    refine wpAny_Return_none ?_
    exact hQ _ () _ _ _ H rfl B.fr.keep B.run B.kp
  | false =>
    simp only [Bool.false_eq_true, ↓reduceIte] at H
    refine wpAny_execs_nil ?_
    refine wpAny_execs_cons ?_
    refine wpAny_Assign_Name ?_
    refine MethodCall_ ?_
    refine self_own S.X B.fr rfl S.get ?_
    refine args_cons ?_
    refine nameX_L B.fr rfl ?_
    refine args_nil ?_
    refine ⟨B.fr.keep, bd_callE (D.get _ _) B (by decide) (by decide) H hX (fun last _ _ _ H B => ?_)⟩
    refine bd_store B (fun _ B => ?_)
    refine wpAny_execs_cons ?_
    refine wpAny_If ?_
    refine isTrue_plain ?_
    refine MethodCall_ ?_
    refine self_own S.X B.fr rfl S.less ?_
    refine args_cons ?_
    refine nameX_L B.fr rfl ?_
    refine args_cons ?_
    refine nameX_L B.fr rfl ?_
    refine args_nil ?_
    refine ⟨B.fr.keep, bd_callE (D.less _ _) B (by decide) (by decide) H hX (fun b _ _ _ H B => ?_)⟩
    refine wpAny_truthy_bool ?_
    cases b with
    | true =>
      simp only [↓reduceIte] at H
      refine wpAny_execs_cons ?_
      refine wpAny_Expr ?_
      refine MethodCall_ ?_
      refine self_own S.X B.fr rfl S.put ?_
      refine args_cons ?_
      refine nameX_L B.fr rfl ?_
      refine args_cons ?_
      refine nameX_L B.fr rfl ?_
      refine args_nil ?_
      refine ⟨B.fr.keep, bd_callE (D.put _ _ _) B (by decide) (by decide) H hX (fun _ _ _ _ H B => ?_)⟩
      refine wpAny_execs_cons ?_
      refine wpAny_Expr ?_
      refine MethodCall_ ?_
      refine self_own S.X B.fr rfl S.put ?_
      refine args_cons ?_
      refine nameX_L B.fr rfl ?_
      refine args_cons ?_
      refine nameX_L B.fr rfl ?_
      refine args_nil ?_
      refine ⟨B.fr.keep, bd_callE (D.put _ _ _) B (by decide) (by decide) H hX (fun _ _ _ _ H B => ?_)⟩
      refine wpAny_execs_nil ?_
      refine wpAny_execs_nil ?_
      exact hQ _ () _ _ _ H rfl B.fr.keep B.run B.kp
    | false =>
      simp only [Bool.false_eq_true, ↓reduceIte] at H
      refine wpAny_execs_nil ?_
      refine wpAny_execs_nil ?_
      exact hQ _ () _ _ _ H rfl B.fr.keep B.run B.kp
end
end Mine
end

section
open PySem PySem.W PySem.Calls PyProof.Rows
set_option Elab.async false
set_option maxRecDepth 100000
namespace Mine

section
variable {prog : Program} {w : World} {A : Around} {R : Result → Shared → Prop} {h : Heap} {g : Array GenState} {d : Drawn} {t : Nat} {os : OsState}

abbrev bmE : List Value := [.type "Exception", .type "BaseException", .type "object"]

theorem cls31 (w : World) : ∃ nm q N bs hdct sn sub ab col dd k0 k1 k2 k3 k5, (KF w).lookup 31 = some (excClassObj nm q 31 N bs bmE hdct sn sub ab col dd k0 k1 k2 k3 k5 "Exception.__new__") := by
  exact ⟨_, _, _, _, _, _, _, _, _, _, _, _, _, _, _, rfl⟩

set_option maxHeartbeats 4000000 in
theorem make_bad {v : Value} (X : (KF w).In h)
    (hq : codeAny (model prog w) (A.under (.builtin "type.__call__" ⟨[.ref 31, v], []⟩)) (.call (.ref 28) ⟨[.ref (h.objs.size + 1), v], []⟩) (InitBack (h.objs.size + 1) R)
      ⟨(h.push { cls := .type "tuple", data := .seq [v].toArray }).push { cls := .ref 31, data := .fields #[.ref h.objs.size, .none, .none, .none, .bool false, .none] }, g, d, t, os⟩) :
    codeAny (model prog w) A (.call (.ref 31) ⟨[v], []⟩) R ⟨h, g, d, t, os⟩ := by
  refine hide fun gl9 hg9 => ?_
  obtain ⟨nm, q, N, bs, hdct, sn, sub, ab, col, dd, k0, k1, k2, k3, k5, e31⟩ := cls31 w
  refine hg9 ?_
  clear hg9 gl9
  have hC := X _ _ e31
  have F := PySem.F.excBase_Exception
  have f1 := tc_lookup
  have f2 := tc_bind (.ref 31)
  have hT : (⟨h, g, d, t, os⟩ : Shared).TypeIs (.ref 31) "type" := ⟨_, hC, rfl⟩
  refine codeAny_of_tree ?_
  show wpAny _ _ (callAny (.ref 31) _) _ _ _
  repeat (any_goals (first | assumption | with_reducible refine wpAny_loadPart_at hC ?_ | wp_step))
  refine ⟨rfl, ?_⟩
  refine codeAny_call_builtin_at (Code.quiet_builtin _ (by decide +kernel)) entry_typeCall (wpAny_check_type_call_sub hC ?_)
  repeat (first | with_reducible refine wpAny_loadPart_at hC ?_ | with_reducible refine wpAny_madeBy_exc hC ?_ | wp_step)
  refine codeAny_call_builtin_code (Code.quiet_builtin _ F.quiet) (wpAny_check_new_subU F F.hasB OwnTail.base hC ?_)
  refine codeAny_exc_new_subU F F.hasB F OwnTail.base hC ?_ (by show 1 ≤ sizeLine; rw [sizeLine_eq]; lia)
  show wpAny _ _ _ _ _ ⟨(h.push { cls := .type "tuple", data := .seq [v].toArray }).push { cls := .ref 31, data := .fields #[.ref h.objs.size, .none, .none, .none, .bool false, .none] }, g, d, t, os⟩
  have k : ∀ b o, h.get? b = some o → ((h.push { cls := .type "tuple", data := .seq [v].toArray }).push { cls := .ref 31, data := .fields #[.ref h.objs.size, .none, .none, .none, .bool false, .none] }).get? b = some o := fun b o e => Heap.get?_push_of_some _ (Heap.get?_push_of_some _ e)
  have hget : ((h.push { cls := .type "tuple", data := .seq [v].toArray }).push { cls := .ref 31, data := .fields #[.ref h.objs.size, .none, .none, .none, .bool false, .none] }).get? (h.objs.size + 1) = some
      { cls := .ref 31, data := .fields #[.ref h.objs.size, .none, .none, .none, .bool false, .none] } := by heap_get
  have t1 : Looks (model prog w) ((h.push { cls := .type "tuple", data := .seq [v].toArray }).push { cls := .ref 31, data := .fields #[.ref h.objs.size, .none, .none, .none, .bool false, .none] }) (typeOf (.ref (h.objs.size + 1))) (.ref 31) := (Looks.ld hget).andThen .now
  have s1 : Looks (model prog w) _ (isSubtype (.ref 31) (.ref 31)) true := (looks_subIn (M := model prog w) X (t := .ref 31) (base := .ref 31) (r := true) (by kernel_rfl)).keeps k
  have i1 : Looks (model prog w) _ (typeLookup (.ref 31) "__init__") (some (.ref 28)) := (looks_findIn (M := model prog w) X (t := .ref 31) (name := "__init__") (r := some (.ref 28)) (by kernel_rfl)).keeps k
  have b1 : Looks (model prog w) _ (bindSpecial (.ref 28) (.ref (h.objs.size + 1))) (.ref 28, [.ref (h.objs.size + 1)]) := (bind_fn (M := model prog w) X (f := 28) (.ref (h.objs.size + 1)) (by kernel_rfl)).keeps k
  unfold isInstance callSpecial? specialOf
  repeat (first | with_reducible refine wpAny_call ?_ | lk)
  refine codeAny_mono hq fun r s' z => ?_
  rcases r with e | (v | _ | _ | _) <;> first | exact z | exact z.elim | skip
  obtain ⟨rfl, z⟩ := z
  exact wpAny_pure (wpAny_pure z)
end
end Mine
end

section
open PySem PySem.W PySem.Calls PyProof.Rows
set_option Elab.async false
set_option maxRecDepth 100000
namespace Mine

theorem str_add {prog : Program} {w : World} {A : Around} {E : Value → Shared → Prop} {s : Shared} {x y : Str} {t u : Tok} {Q : Value → Shared → Prop} (hsz : x.length + y.length ≤ sizeLine) (h : ∀ t' tk, Q (.str (x ++ y) t') { s with toks := tk }) : wpAny (model prog w) A (binaryOp .Add (.str x t) (.str y u)) Q E s :=
  PyProof.Rows.add_str h hsz

section
variable {prog : Program} {w : World} {A : Around} {R : Result → Shared → Prop} {s : Shared} {h₀ : Heap} {p : Program} {loose : List Str} {mg mb : Str → Option Value}

theorem ns30 (w : World) {h : Heap} (X : (KF w).In h) : ∃ mN, h.Ns 30 mN ∧ mN "__setattr__" = none ∧ mN "at" = none := by
  obtain ⟨o, ho⟩ : ∃ o, (KF w).lookup 30 = some o := ⟨_, rfl⟩
  have e : ∃ es n, o.data = .dict es n ∧ StrKeys es ∧ nsFind es "__setattr__" = none ∧ nsFind es "at" = none := by
    have : (KF w).lookup 30 = some o := ho
    cases this
    refine ⟨_, _, rfl, ?_, by kernel_rfl, by kernel_rfl⟩
    intro e he
    simp only [List.mem_toArray, List.mem_cons, List.not_mem_nil, or_false] at he
    rcases he with rfl | rfl | rfl | rfl | rfl | rfl <;> exact ⟨_, _, rfl⟩
  refine hide fun gl9 hg9 => ?_
  obtain ⟨es, n, e1, e2, e3, e4⟩ := e
  refine hg9 ?_
  clear hg9 gl9
  exact ⟨_, ⟨o, es, n, X _ _ ho, e1, e2, fun _ => rfl⟩, e3, e4⟩

set_option maxHeartbeats 8000000 in
theorem exc_init {h : Heap} {g : Array GenState} {d : Drawn} {tk : Nat} {os : OsState} {E : Value → Shared → Prop} {Q : Value → Shared → Prop} {e t0 : Addr} {v : Value} (X : (KF w).In h)
    (he : h.get? e = some { cls := .ref 31, data := .fields #[.ref t0, .none, .none, .none, .bool false, .none] })
    (hq : ∀ h', (∀ b o, b ≠ e → h.get? b = some o → h'.get? b = some o) → h'.get? e = some { cls := .ref 31, data := .fields #[.ref h.objs.size, .none, .none, .none, .bool false, .none] } → Q .none ⟨h', g, d, tk, os⟩) :
    wpAny (model prog w) A (call (.builtin "Exception.__init__") [.ref e, v]) Q E ⟨h, g, d, tk, os⟩ := by
  refine hide fun gl9 hg9 => ?_
  obtain ⟨nm, q, N, bs, hdct, sn, sub, ab, col, dd, k0, k1, k2, k3, k5, e31⟩ := cls31 w
  refine hg9 ?_
  clear hg9 gl9
  have FE := PySem.F.excBase_Exception
  have hC := X _ _ e31
  refine wpAny_call (codeAny_call_builtin FE.init.plain FE.initEntry (wpAny_check_init_subU FE OwnTail.base hC he rfl ?_))
  wp_walk
  refine hq _ (fun b o hb e' => ?_) ?_
  · rw [Heap.get?_update_other _ _ (Ne.symm hb)]
    exact Heap.get?_push_of_some _ e'
  · rw [Heap.get?_update_self _ (Heap.get?_push_of_some _ he) rfl]
    rfl

set_option maxHeartbeats 8000000 in
theorem init_bad {i : Int} {t : Tok} {e t0 : Addr} (X : (KF w).In h₀) (T : TopRead p loose mg mb h₀) (st : h₀.StaysIn s.heap) (sz : h₀.objs.size ≤ s.heap.objs.size)
    (he : s.heap.get? e = some { cls := .ref 31, data := .fields #[.ref t0, .none, .none, .none, .bool false, .none] }) (hn : h₀.get? e = none) (hi : -1000000 < i ∧ i < 1000000) (room : A.depth < recursionLimit)
    (hq : ∀ h' tk t1 dx, h₀.StaysIn h' → h'.get? e = some { cls := .ref 31, dict := some dx, data := .fields #[.ref t1, .none, .none, .none, .bool false, .none] } → R (.ok (.ret .none)) { s with heap := h', toks := tk }) :
    codeAny (model prog w) A (.call (.ref 28) ⟨[.ref e, .int i t], []⟩) R s := by
  refine hide fun gl9 hg9 => ?_
  obtain ⟨hp, g, d, tk0, os⟩ := s
  refine hg9 ?_
  clear hg9 gl9
  dsimp only at st sz he hq
  have hlog : i.natAbs.log2 < 1920 := shown (N := 1000000) hi.1 hi.2 (by decide)
  refine codeAny_call_def (binds := [("self", .ref e), ("at", .int i t)]) room (st _ _ (X _ _ (by rfl))) rfl (T.nolimit.keeps st) ((codeRec_of X (by kernel_rfl)).keeps st) rfl (BindsTo.of_eq rfl) (by decide) (locs rfl) (fun h₁ hns hk₁ => ?_)
  have F : Fr h₀ hp.objs.size h₁ (fun x => ([("self", Value.ref e), ("at", .int i t)] : List (Str × Value)).reverse.lookup x) := ⟨hns, fun b o e => hk₁ b o (st b o e), sz⟩
  have he₁ := hk₁ _ _ he
  have heL : e ≠ hp.objs.size := Nat.ne_of_lt (Heap.lt_size he)
  refine wpAny_execs_cons ?_
  refine wpAny_Expr ?_
  refine MethodCall_ ?_
  refine nameX_B F X T (by kernel_rfl) Boot.«Exception» (by decide) ?_
  refine method_type (T := "Exception") F X (by kernel_rfl) (by decide +kernel) (v := .builtin "Exception.__init__") (by kernel_rfl) rfl ?_
  refine callWith_method1 ?_
  refine args_cons ?_
  refine nameX_L F rfl ?_
  refine args_cons ?_
  refine wpAny_BinOp ?_
  refine Calls.Constant_str ?_
  refine Call_ ?_
  refine nameX_B F X T (by kernel_rfl) boot_str (by decide) ?_
  refine PyProof.Rows.callWith_type1 ?_
  refine args_cons ?_
  refine nameX_L F rfl ?_
  refine args_nil ?_
  refine PySem.P.str_of_int hlog ?_
  refine str_add ?_ (fun t' tk => ?_)
  · have h8 := int_text_length_le10 (a := i) (k := 7) (by decide) (by lia)
    have h21 : (Str.ofString "the way leads out at ").length = 21 := by decide +kernel
    show (Str.ofString "the way leads out at ").length + (Str.ofString (toString i)).length ≤ sizeLine
    rw [h21, PySem.ofString_length, sizeLine_eq]
    lia
  refine args_nil ?_
  refine exc_init (X.keeps F.keep) he₁ (fun h₂ hk₂ he₂ => ?_)
  have F₂ : Fr h₀ hp.objs.size h₂ (fun x => ([("self", Value.ref e), ("at", .int i t)] : List (Str × Value)).reverse.lookup x) :=
    ⟨let ⟨o, es, ep, e0, r⟩ := F.ns; ⟨o, es, ep, hk₂ _ _ (Ne.symm heL) e0, r⟩, fun b o e' => hk₂ b o (fun q => by rw [q, hn] at e'; cases e') (F.keep b o e'), sz⟩
  refine wpAny_execs_cons ?_
  refine plainObj_wpAny_Assign_Attribute ?_
  refine nameX_L F₂ rfl ?_
  refine nameX_L F₂ rfl ?_
  refine hide fun gl9 hg9 => ?_
  obtain ⟨mN, n1, n2, n3⟩ := ns30 w (X.keeps F₂.keep)
  refine hg9 ?_
  clear hg9 gl9
  refine hide fun gl9 hg9 => ?_
  obtain ⟨nm, q, N, bs, hdct, sn, sub, ab, col, dd, k0, k1, k2, k3, k5, e31⟩ := cls31 w
  refine hg9 ?_
  clear hg9 gl9
  have e30 : N = 30 ∧ hdct = true := by
    have : (KF w).lookup 31 = _ := e31
    cases this
    exact ⟨rfl, rfl⟩
  obtain ⟨rfl, rfl⟩ := e30
  have hC := F₂.keep _ _ (X _ _ e31)
  refine store_attr (mA := fun _ => none) (ns := []) PySem.F.store_Exception hC n1 n2 n3 (by kernel_rfl) (fun q => ?_) ⟨_, he₂, rfl, by simp, .inl ⟨rfl, fun _ => rfl⟩⟩ (fun h₃ tk₃ I₃ hk₃ hs₃ => ?_)
  · rw [q, X _ _ e31] at hn; cases hn
  · refine wpAny_execs_nil ?_
    obtain ⟨o₁, a1, a2, a3, a4, _⟩ := hs₃ _ he₂
    obtain ⟨o, i1, _, _, i4⟩ := I₃
    rw [a1] at i1
    cases i1
    rcases i4 with ⟨_, z⟩ | ⟨dx, z, _⟩
    · have := z "at"
      simp at this
    · refine hq h₃ tk₃ h₁.objs.size dx (fun b ob e' => hk₃ b ob (fun q => by rw [q, hn] at e'; cases e') (fun o₀ dx e1 e2 => by rw [he₂] at e1; cases e1; cases e2) (F₂.keep b ob e')) ?_
      rw [a1]
      obtain ⟨oc, od, oda, osl⟩ := o₁
      dsimp only at a2 a3 a4 z
      subst a2 a3 a4 z
      rfl
end
end Mine
end

section
open PySem PySem.W PySem.Calls PyProof.Rows
set_option Elab.async false
set_option maxRecDepth 100000
namespace Mine

section
variable {prog : Program} {w : World} {A : Around} {R : Result → Shared → Prop} {s : Shared} {G : Heap} {h₀ : Heap} {p : Program} {loose : List Str} {mg mb : Str → Option Value} {E : Value → Shared → Prop}

set_option maxHeartbeats 8000000 in
theorem raiseStmt_bad {env : Env} {x : Sem Value} {Q : Flow → Shared → Prop} (hh : A.handled = none)
    (h : wpAny (model prog w) A x (fun v s₁ => ∃ e t1 dx, v = .ref e ∧ (KF w).In s₁.heap ∧
      s₁.heap.get? e = some { cls := .ref 31, dict := some dx, data := .fields #[.ref t1, .none, .none, .none, .bool false, .none] } ∧ E (.ref e) s₁) E s) :
    wpAny (model prog w) A (raiseStmt env (some x) none) Q E s := by
  have hcB : (Value.ref 31 :: bmE).contains (.type "BaseException") = true := by decide
  unfold raiseStmt
  refine wpAny_bind (wpAny_mono h (fun v s₁ h₁ => ?_) fun _ _ x => x)
  refine hide fun gl9 hg9 => ?_
  obtain ⟨e, t, dx, rfl, X, he, hE⟩ := h₁
  refine hg9 ?_
  clear hg9 gl9
  refine hide fun gl9 hg9 => ?_
  obtain ⟨nm, q, N, bs, hdct, sn, sub, ab, col, dd, k0, k1, k2, k3, k5, e31⟩ := cls31 w
  refine hg9 ?_
  clear hg9 gl9
  have hC := X _ _ e31
  refine hide fun gl9 hg9 => ?_
  obtain ⟨hp, g, d, tk, os⟩ := s₁
  refine hg9 ?_
  clear hg9 gl9
  repeat (first | with_reducible refine wpAny_loadPart_at he ?_ | with_reducible refine wpAny_loadPart_at hC ?_ | (with_reducible refine wpAny_isSubtype_exc hC ?_; rw [hcB]) | wp_step)
  exact wpAny_raiseNew_none hh hE

/-- raise BadOrder(i) -/
theorem raise_bad {cn : Str} {cs : Scope} {L a : Addr} {ccd : Value} {cl : List (Str × Addr)} {m : Str → Option Value} {np cpos pos : Pos} {arg : Expr} {i : Int} {Q : Flow → Shared → Prop}
    (F : Fr G L s.heap m) (X : (KF w).In G) (T : TopRead p loose mg mb G) (hh : A.handled = none) (room : A.depth + 2 < recursionLimit) (hi : -1000000 < i ∧ i < 1000000)
    (harg : ∀ (E' : Value → Shared → Prop) (Q' : Value → Shared → Prop), (∀ u tk, Q' (.int i u) { s with toks := tk }) → wpAny (model prog w) A (eval arg (envX cn cs L a ccd cl)) Q' E' s)
    (hE : ∀ e t1 dx h' tk, s.heap.StaysIn h' → s.heap.get? e = none → h'.get? e = some { cls := .ref 31, dict := some dx, data := .fields #[.ref t1, .none, .none, .none, .bool false, .none] } → E (.ref e) { s with heap := h', toks := tk })
    (hst : starEach [arg] (envX cn cs L a ccd cl) = [(false, eval arg (envX cn cs L a ccd cl))] := by rfl)
    (hk : cs.kind = .function := by rfl) (hx : (envX cn cs L a ccd cl).kindOf "BadOrder" = some .globalImplicit := by rfl) :
    wpAny (model prog w) A (exec (.Raise (some (.Call (.Name "BadOrder" np) [arg] [] cpos)) none pos) (envX cn cs L a ccd cl)) Q E s := by
  rw [arm_exec_Raise]
  refine wpAny_bind (wpAny_standAt (raiseStmt_bad hh (wpAny_bind (wpAny_mono (wpAny_Call_ofName (nameX_K F X T (v := .ref 31) (by kernel_rfl) ?_ hk hx)) (fun v s₃ h₃ => wpAny_bind (wpAny_standAt (wpAny_pure h₃))) fun _ _ x => x))))
  have hkeep : keepIn (KF w) (.ref 31) = true := by kernel_rfl
  refine callWith_K (h₀ := G) X hkeep ?_ hst (by rfl)
  refine args_cons ?_ hst
  refine harg _ _ (fun u tk => ?_)
  refine args_nil ⟨X.keeps F.keep, ?_⟩
  refine hide fun gl9 hg9 => ?_
  obtain ⟨hp, g, d, tk0, os⟩ := s
  refine hg9 ?_
  clear hg9 gl9
  refine wpAny_call (make_bad (X.keeps F.keep) ?_)
  have k : ∀ b o, hp.get? b = some o → ((hp.push { cls := .type "tuple", data := .seq [Value.int i u].toArray }).push { cls := .ref 31, data := .fields #[.ref hp.objs.size, .none, .none, .none, .bool false, .none] }).get? b = some o := fun b o e => Heap.get?_push_of_some _ (Heap.get?_push_of_some _ e)
  have F' : (KF w).In hp := X.keeps F.keep
  refine init_bad (h₀ := hp) (i := i) F' (T.keeps F.keep) k ?_ (by heap_get) (Heap.get?_none_of_le (Nat.le_succ _)) hi ?_ (fun h' tk' t1 dx st he => ⟨rfl, ?_⟩)
  · show hp.objs.size ≤ ((hp.push _).push _).objs.size
    rw [Heap.size_push, Heap.size_push]
    exact Nat.le_add_right hp.objs.size 2
  · show A.depth + 1 < recursionLimit
    lia
  · exact ⟨_, t1, dx, rfl, F'.keeps st, he, hE _ t1 dx h' tk' st (Heap.get?_none_of_le (Nat.le_succ _)) he⟩
end
end Mine
end

section
open PySem PySem.W PySem.Calls PyProof.Rows
set_option Elab.async false
set_option maxRecDepth 100000
namespace Mine

section
variable {prog : Program} {w : World} {G : Heap} {c : Pl} {orel : ORel} {x fg fp fl fh fd : Addr} {dep un : Nat} {tl : Value → Value → Tr Bool}

abbrev relT : Int × Value → Value → Heap → Prop := fun a v h => ∃ t tk, v = .ref t ∧ IsTup h t #[.int a.1 tk, a.2]

theorem aug_int {M : Model} {A : Around} {E : Value → Shared → Prop} {s : Shared} {L a : Addr} {m : Str → Option Value} {cn : Str} {cs : Scope} {ccd : Value} {cl : List (Str × Addr)} {y : Str} {v : Value} {h₀ : Heap} {Q : Value → Shared → Prop} (F : Fr h₀ L s.heap m) (hv : m y = some v) (h : Q v s)
    (hk : cs.kind = .function := by rfl) (hx : (envX cn cs L a ccd cl).kindOf y = some .local := by rfl) : wpAny M A (loadName (envX cn cs L a ccd cl) y) Q E s := wpAny_loadName_local hk hx F.ns hv h

theorem get_small {c : Pl} {orel : ORel} {σ : Sg} {h : Heap} {i : Int} {Q : Value → Sg → Prop} {E : Sg → Prop} (R : Run c orel σ h) (H : tGet i Q E σ) : 0 ≤ i ∧ i < 1000 := by
  refine hide fun gl9 hg9 => ?_
  obtain ⟨h0, _, v, hv, _⟩ := H
  refine hg9 ?_
  clear hg9 gl9
  have h1 := R.pl
  have h2 : i.toNat < σ.P.length := (List.getElem?_eq_some_iff.mp hv).1
  lia

set_option maxHeartbeats 4000000 in
theorem up_meets (S : Qs w G x fg fp fl fh fd) (D : Cs prog w G c orel tl fg fp fl fh fd) (hW : ∀ a ∈ c.W, G.get? a = none) (n : Nat) (pivot : Value) (i high : Int) (t u : Tok) :
    Meets prog w G c orel 31 30 200 (.ref 69) [.ref x, pivot, .int i t, .int high u] relT (tUp tl n pivot i high) := by
  refine meets_fn (dep := 29) (un := 197) (binds := [("self", _), ("pivot", _), ("at", _), ("high", _)]) S.nl hW (S.X _ _ (by rfl)) rfl (codeRec_of S.X (by kernel_rfl)) (fun s st => BindsTo.of_eq rfl) (locs rfl) (by decide) rfl rfl rfl ?_
  intro A outer L h₀ s σ Q E Qb Eb B H hQ hX hP
  refine wpAny_execs_cons ?_
  refine wpAny_AugAssign_Name ?_
  refine aug_int B.fr rfl ?_
  refine wpAny_Constant_int ?_
  refine iadd_int ?_
  refine bd_store B (fun _ B => ?_)
  refine wpAny_execs_cons ?_
  refine wpAny_Assign_Name ?_
  have hs := get_small (E := E) B.run H
  refine MethodCall_ ?_
  refine self_own S.X B.fr rfl S.get ?_
  refine args_cons ?_
  refine nameX_L B.fr rfl ?_
  refine args_nil ?_
  refine ⟨B.fr.keep, bd_callE (D.get _ _) B (by decide) (by decide) H hX (fun v σ1 _ _ H B => ?_)⟩
  refine bd_store B (fun h2 B => ?_)
  refine wpAny_execs_cons ?_
  refine while_I (fun n s' => ∃ i v t m σ h' tk, s' = { s with heap := h', toks := tk } ∧ Bd G c orel A outer _ L h₀ 29 197 m σ h' ∧ tUpW tl pivot high n i v Q E σ ∧ 0 ≤ i ∧ i < 1000 ∧
      m "self" = some (.ref x) ∧ m "pivot" = some pivot ∧ m "at" = some (.int i t) ∧ m "high" = some (.int high u) ∧ m "value" = some v) ?_ hP n ⟨_, _, _, _, _, _, _, rfl, B, H, hs.1, hs.2, rfl, rfl, rfl, rfl, rfl⟩
  intro n s' hJ9
  refine hide fun gl9 hg9 => ?_
  obtain ⟨i, v, t, m, σ, h', tk, rfl, B, H, hi0, hi1, m1, m2, m3, m4, m5⟩ := hJ9
  refine hg9 ?_
  clear hg9 gl9
  cases n with
  | zero => exact H.elim
  | succ n =>
  refine isTrue_plain ?_
  refine MethodCall_ ?_
  refine self_own S.X B.fr m1 S.less ?_
  refine args_cons ?_
  refine nameX_L B.fr m5 ?_
  refine args_cons ?_
  refine nameX_L B.fr m2 ?_
  refine args_nil ?_
  refine ⟨B.fr.keep, bd_callE (D.less _ _) B (by decide) (by decide) H hX (fun b σ2 h3 tk3 H B => ?_)⟩
  refine wpAny_truthy_bool ?_
  cases b with
  | false =>
    simp only [Bool.false_eq_true, ↓reduceIte] at H ⊢
    refine wpAny_execs_cons ?_
    refine wpAny_Return_some ?_
    refine Tuple_ ?_
    refine args_cons ?_
    refine nameX_L B.fr m3 ?_
    refine args_cons ?_
    refine nameX_L B.fr m5 ?_
    refine args_nil ?_
    refine bd_newTuple B (fun t' _ B ht => ?_)
    exact hQ (.ret _) (i, v) _ _ _ H ⟨t', t, rfl, ht⟩ B.fr.keep B.run B.kp
  | true =>
    simp only [↓reduceIte] at H ⊢
    refine wpAny_execs_cons ?_
    refine wpAny_If ?_
    refine wpAny_isTrue_Compare1 ?_
    refine nameX_L B.fr m3 ?_
    refine nameX_L B.fr m4 ?_
    refine gt_int ?_
    refine wpAny_truthy_bool ?_
    by_cases hgt : high < i
    · simp only [hgt, decide_true, ↓reduceIte] at H ⊢
      refine wpAny_execs_cons ?_
      obtain ⟨p, loose, mg, mb, T⟩ := S.T
      refine raise_bad (i := i) B.fr S.X T B.hd (by have := B.dp; lia) ⟨by lia, by lia⟩ (fun E' Q' k => nameX_L B.fr m3 (k _ _)) (fun e t1 dx h' tk st hn he => ?_)
      exact hX e _ h' tk H (fresh_flies B st hn he rfl rfl rfl rfl)
    · simp only [hgt, decide_false, Bool.false_eq_true, ↓reduceIte] at H ⊢
      refine wpAny_execs_nil ?_
      refine wpAny_execs_cons ?_
      refine wpAny_AugAssign_Name ?_
      refine aug_int B.fr m3 ?_
      refine wpAny_Constant_int ?_
      refine iadd_int ?_
      refine bd_store B (fun _ B => ?_)
      refine wpAny_execs_cons ?_
      refine wpAny_Assign_Name ?_
      have hs := get_small (E := E) B.run H
      refine MethodCall_ ?_
      refine self_own S.X B.fr m1 S.get ?_
      refine args_cons ?_
      refine nameX_L B.fr rfl ?_
      refine args_nil ?_
      refine ⟨B.fr.keep, bd_callE (D.get _ _) B (by decide) (by decide) H hX (fun v σ1 _ _ H B => ?_)⟩
      refine bd_store B (fun h2 B => ?_)
      refine wpAny_execs_nil ?_
      exact ⟨n, Nat.lt_succ_self n, _, _, _, _, _, _, _, rfl, B, H, hs.1, hs.2, m1, m2, rfl, m4, rfl⟩
set_option maxHeartbeats 4000000 in
theorem down_meets (S : Qs w G x fg fp fl fh fd) (D : Cs prog w G c orel tl fg fp fl fh fd) (hW : ∀ a ∈ c.W, G.get? a = none) (n : Nat) (pivot : Value) (i low : Int) (t u : Tok) :
    Meets prog w G c orel 31 30 200 (.ref 76) [.ref x, pivot, .int i t, .int low u] relT (tDown tl n pivot i low) := by
  refine meets_fn (dep := 29) (un := 197) (binds := [("self", _), ("pivot", _), ("at", _), ("low", _)]) S.nl hW (S.X _ _ (by rfl)) rfl (codeRec_of S.X (by kernel_rfl)) (fun s st => BindsTo.of_eq rfl) (locs rfl) (by decide) rfl rfl rfl ?_
  intro A outer L h₀ s σ Q E Qb Eb B H hQ hX hP
  refine wpAny_execs_cons ?_
  refine wpAny_AugAssign_Name ?_
  refine aug_int B.fr rfl ?_
  refine wpAny_Constant_int ?_
  refine PyProof.Rows.isub_int ?_
  refine bd_store B (fun _ B => ?_)
  refine wpAny_execs_cons ?_
  refine wpAny_Assign_Name ?_
  have hs := get_small (E := E) B.run H
  refine MethodCall_ ?_
  refine self_own S.X B.fr rfl S.get ?_
  refine args_cons ?_
  refine nameX_L B.fr rfl ?_
  refine args_nil ?_
  refine ⟨B.fr.keep, bd_callE (D.get _ _) B (by decide) (by decide) H hX (fun v σ1 _ _ H B => ?_)⟩
  refine bd_store B (fun h2 B => ?_)
  refine wpAny_execs_cons ?_
  refine while_I (fun n s' => ∃ i v t m σ h' tk, s' = { s with heap := h', toks := tk } ∧ Bd G c orel A outer _ L h₀ 29 197 m σ h' ∧ tDownW tl pivot low n i v Q E σ ∧ 0 ≤ i ∧ i < 1000 ∧
      m "self" = some (.ref x) ∧ m "pivot" = some pivot ∧ m "at" = some (.int i t) ∧ m "low" = some (.int low u) ∧ m "value" = some v) ?_ hP n ⟨_, _, _, _, _, _, _, rfl, B, H, hs.1, hs.2, rfl, rfl, rfl, rfl, rfl⟩
  intro n s' hJ9
  refine hide fun gl9 hg9 => ?_
  obtain ⟨i, v, t, m, σ, h', tk, rfl, B, H, hi0, hi1, m1, m2, m3, m4, m5⟩ := hJ9
  refine hg9 ?_
  clear hg9 gl9
  cases n with
  | zero => exact H.elim
  | succ n =>
  refine isTrue_plain ?_
  refine MethodCall_ ?_
  refine self_own S.X B.fr m1 S.less ?_
  refine args_cons ?_
  refine nameX_L B.fr m2 ?_
  refine args_cons ?_
  refine nameX_L B.fr m5 ?_
  refine args_nil ?_
  refine ⟨B.fr.keep, bd_callE (D.less _ _) B (by decide) (by decide) H hX (fun b σ2 h3 tk3 H B => ?_)⟩
  refine wpAny_truthy_bool ?_
  cases b with
  | false =>
    simp only [Bool.false_eq_true, ↓reduceIte] at H ⊢
    refine wpAny_execs_cons ?_
    refine wpAny_Return_some ?_
    refine Tuple_ ?_
    refine args_cons ?_
    refine nameX_L B.fr m3 ?_
    refine args_cons ?_
    refine nameX_L B.fr m5 ?_
    refine args_nil ?_
    refine bd_newTuple B (fun t' _ B ht => ?_)
    exact hQ (.ret _) (i, v) _ _ _ H ⟨t', t, rfl, ht⟩ B.fr.keep B.run B.kp
  | true =>
    simp only [↓reduceIte] at H ⊢
    refine wpAny_execs_cons ?_
    refine wpAny_If ?_
    refine wpAny_isTrue_Compare1 ?_
    refine nameX_L B.fr m3 ?_
    refine nameX_L B.fr m4 ?_
    refine lt_int ?_
    refine wpAny_truthy_bool ?_
    by_cases hgt : i < low
    · simp only [hgt, decide_true, ↓reduceIte] at H ⊢
      refine wpAny_execs_cons ?_
      obtain ⟨p, loose, mg, mb, T⟩ := S.T
      refine raise_bad (i := i) B.fr S.X T B.hd (by have := B.dp; lia) ⟨by lia, by lia⟩ (fun E' Q' k => nameX_L B.fr m3 (k _ _)) (fun e t1 dx h' tk st hn he => ?_)
      exact hX e _ h' tk H (fresh_flies B st hn he rfl rfl rfl rfl)
    · simp only [hgt, decide_false, Bool.false_eq_true, ↓reduceIte] at H ⊢
      refine wpAny_execs_nil ?_
      refine wpAny_execs_cons ?_
      refine wpAny_AugAssign_Name ?_
      refine aug_int B.fr m3 ?_
      refine wpAny_Constant_int ?_
      refine PyProof.Rows.isub_int ?_
      refine bd_store B (fun _ B => ?_)
      refine wpAny_execs_cons ?_
      refine wpAny_Assign_Name ?_
      have hs := get_small (E := E) B.run H
      refine MethodCall_ ?_
      refine self_own S.X B.fr m1 S.get ?_
      refine args_cons ?_
      refine nameX_L B.fr rfl ?_
      refine args_nil ?_
      refine ⟨B.fr.keep, bd_callE (D.get _ _) B (by decide) (by decide) H hX (fun v σ1 _ _ H B => ?_)⟩
      refine bd_store B (fun h2 B => ?_)
      refine wpAny_execs_nil ?_
      exact ⟨n, Nat.lt_succ_self n, _, _, _, _, _, _, _, rfl, B, H, hs.1, hs.2, m1, m2, rfl, m4, rfl⟩
end
end Mine
end

section
open PySem PySem.W PySem.Calls PyProof.Rows
set_option Elab.async false
set_option maxRecDepth 100000
namespace Mine

section
variable {prog : Program} {w : World} {G : Heap} {c : Pl} {orel : ORel} {x fg fp fl fh fd : Addr} {dep un : Nat} {tl : Value → Value → Tr Bool}

theorem half_int {A : Around} {E : Value → Shared → Prop} {s : Shared} {a : Int} {t u : Tok} {Q : Value → Shared → Prop} (h : Q (.int (a / 2) s.toks) { s with toks := s.toks + 1 }) : wpAny (model prog w) A (binaryOp .FloorDiv (.int a t) (.int 2 u)) Q E s := by
  refine PyProof.Rows.floordiv_int (by decide) ?_ (Or.inl (PyProof.noPylong_of_log2 (by decide +kernel)))
  rw [Int.fdiv_eq_ediv_of_nonneg a (by decide)]
  exact h

theorem wpAny_Break {M : Model} {A : Around} {E : Value → Shared → Prop} {s : Shared} {env : Env} {pos : Pos} {Q : Flow → Shared → Prop} (h : Q .brk s) : wpAny M A (exec (.Break pos) env) Q E s := fun _ _ _ => h

theorem Qs.hold (S : Qs w G x fg fp fl fh fd) : OwnAt (KF w) G x 93 "hold" fh := ⟨S.inst.imp fun _ h => h.imp fun _ h => h.imp fun _ h => ⟨h.1, h.2.2.2.2.1⟩, pg93 w _, hh93 w, by kernel_rfl, S.nh⟩
theorem Qs.drop (S : Qs w G x fg fp fl fh fd) : OwnAt (KF w) G x 93 "drop" fd := ⟨S.inst.imp fun _ h => h.imp fun _ h => h.imp fun _ h => ⟨h.1, h.2.2.2.2.2.1⟩, pg93 w _, hh93 w, by kernel_rfl, S.nd⟩
theorem Qs.up (S : Qs w G x fg fp fl fh fd) : MethAt (KF w) G x 93 "go_up" 69 := ⟨S.inst.imp fun _ h => h.imp fun _ h => h.imp fun _ h => ⟨h.1, h.2.2.2.2.2.2.2.2.1⟩, pg93 w _, by kernel_rfl, by kernel_rfl, ⟨_, _, _, _, S.X _ _ (by rfl)⟩⟩
theorem Qs.down (S : Qs w G x fg fp fl fh fd) : MethAt (KF w) G x 93 "go_down" 76 := ⟨S.inst.imp fun _ h => h.imp fun _ h => h.imp fun _ h => ⟨h.1, h.2.2.2.2.2.2.2.2.2.1⟩, pg93 w _, by kernel_rfl, by kernel_rfl, ⟨_, _, _, _, S.X _ _ (by rfl)⟩⟩
theorem Qs.two (S : Qs w G x fg fp fl fh fd) : MethAt (KF w) G x 93 "order_two" 55 := ⟨S.inst.imp fun _ h => h.imp fun _ h => h.imp fun _ h => ⟨h.1, h.2.2.2.2.2.2.1⟩, pg93 w _, by kernel_rfl, by kernel_rfl, ⟨_, _, _, _, S.X _ _ (by rfl)⟩⟩
theorem Qs.mid (S : Qs w G x fg fp fl fh fd) : MethAt (KF w) G x 93 "order_middle" 62 := ⟨S.inst.imp fun _ h => h.imp fun _ h => h.imp fun _ h => ⟨h.1, h.2.2.2.2.2.2.2.1⟩, pg93 w _, by kernel_rfl, by kernel_rfl, ⟨_, _, _, _, S.X _ _ (by rfl)⟩⟩
theorem Qs.part (S : Qs w G x fg fp fl fh fd) : MethAt (KF w) G x 93 "part" 83 := ⟨S.inst.imp fun _ h => h.imp fun _ h => h.imp fun _ h => ⟨h.1, h.2.2.2.2.2.2.2.2.2.2.1⟩, pg93 w _, by kernel_rfl, by kernel_rfl, ⟨_, _, _, _, S.X _ _ (by rfl)⟩⟩
theorem Qs.sort (S : Qs w G x fg fp fl fh fd) : MethAt (KF w) G x 93 "sort" 90 := ⟨S.inst.imp fun _ h => h.imp fun _ h => h.imp fun _ h => ⟨h.1, h.2.2.2.2.2.2.2.2.2.2.2⟩, pg93 w _, by kernel_rfl, by kernel_rfl, ⟨_, _, _, _, S.X _ _ (by rfl)⟩⟩

abbrev relI : Int → Value → Heap → Prop := fun a v _ => ∃ t, v = .int a t

set_option maxHeartbeats 8000000 in
theorem part_meets (S : Qs w G x fg fp fl fh fd) (D : Cs prog w G c orel tl fg fp fl fh fd) (hW : ∀ a ∈ c.W, G.get? a = none) (n : Nat) (low high : Int) (t u : Tok) :
    Meets prog w G c orel 31 40 300 (.ref 83) [.ref x, .int low t, .int high u] relI (tPart tl n low high) := by
  refine meets_fn (dep := 39) (un := 297) (binds := [("self", _), ("low", _), ("high", _)]) S.nl hW (S.X _ _ (by rfl)) rfl (codeRec_of S.X (by kernel_rfl)) (fun s st => BindsTo.of_eq rfl) (locs rfl) (by decide) rfl rfl rfl ?_
  intro A outer L h₀ s σ Q E Qb Eb B H hQ hX hP
  refine wpAny_execs_cons ?_
  refine wpAny_Assign_Name ?_
  refine wpAny_BinOp ?_
  refine wpAny_BinOp ?_
  refine nameX_L B.fr rfl ?_
  refine nameX_L B.fr rfl ?_
  refine PyProof.Rows.add_int ?_
  refine wpAny_Constant_int ?_
  refine half_int ?_
  refine bd_store B (fun _ B => ?_)
  refine wpAny_execs_cons ?_
  refine wpAny_Assign_Name ?_
  refine MethodCall_ ?_
  refine self_own S.X B.fr rfl S.get ?_
  refine args_cons ?_
  refine nameX_L B.fr rfl ?_
  refine args_nil ?_
  refine ⟨B.fr.keep, bd_callE (D.get _ _) B (by decide) (by decide) H hX (fun pivot _ _ _ H B => ?_)⟩
  refine bd_store B (fun _ B => ?_)
  refine wpAny_execs_cons ?_
  refine wpAny_Expr ?_
  refine MethodCall_ ?_
  refine self_own S.X B.fr rfl S.put ?_
  refine args_cons ?_
  refine nameX_L B.fr rfl ?_
  refine args_cons ?_
  refine MethodCall_ ?_
  refine self_own S.X B.fr rfl S.get ?_
  refine args_cons ?_
  refine wpAny_BinOp ?_
  refine nameX_L B.fr rfl ?_
  refine wpAny_Constant_int ?_
  refine PyProof.Rows.sub_int ?_
  refine args_nil ?_
  refine ⟨B.fr.keep, bd_callE (D.get _ _) B (by decide) (by decide) H hX (fun x1 _ _ _ H B => ?_)⟩
  refine args_nil ?_
  refine ⟨B.fr.keep, bd_callE (D.put _ _ _) B (by decide) (by decide) H hX (fun _ _ _ _ H B => ?_)⟩
  refine wpAny_execs_cons ?_
  refine wpAny_Expr ?_
  refine MethodCall_ ?_
  refine self_own S.X B.fr rfl S.put ?_
  refine args_cons ?_
  refine wpAny_BinOp ?_
  refine nameX_L B.fr rfl ?_
  refine wpAny_Constant_int ?_
  refine PyProof.Rows.sub_int ?_
  refine args_cons ?_
  refine nameX_L B.fr rfl ?_
  refine args_nil ?_
  refine ⟨B.fr.keep, bd_callE (D.put _ _ _) B (by decide) (by decide) H hX (fun _ _ _ _ H B => ?_)⟩
  refine wpAny_execs_cons ?_
  refine Assign_Tuple_swapped (names := ["up", "down"]) ?_
  refine Tuple_ ?_
  refine args_cons ?_
  refine nameX_L B.fr rfl ?_
  refine args_cons ?_
  refine wpAny_BinOp ?_
  refine nameX_L B.fr rfl ?_
  refine wpAny_Constant_int ?_
  refine PyProof.Rows.sub_int ?_
  refine args_nil ?_
  refine bd_pair B (fun h2 B => ?_)
  refine wpAny_execs_cons ?_
  refine while_I (fun k s' => ∃ up down t1 t2 m σ h' tk, s' = { s with heap := h', toks := tk } ∧ Bd G c orel A outer _ L h₀ 39 297 m σ h' ∧
      tPartW tl n pivot low high k up down (fun up σ' => (tBind (tGet (high - 1)) fun last => tBind (tGet up) fun here => tBind (tPut (high - 1) here) fun _ => tBind (tPut up last) fun _ => tPure up) Q E σ') E σ ∧
      m "self" = some (.ref x) ∧ m "low" = some (.int low t) ∧ m "high" = some (.int high u) ∧ m "pivot" = some pivot ∧ m "up" = some (.int up t1) ∧ m "down" = some (.int down t2)) ?_ hP n ⟨_, _, _, _, _, _, _, _, rfl, B, H, rfl, rfl, rfl, rfl, rfl, rfl⟩
  intro k s' hJ9
  refine hide fun gl9 hg9 => ?_
  obtain ⟨up, down, t1, t2, m, σ, h', tk, rfl, B, H, m1, m2, m3, m4, m5, m6⟩ := hJ9
  refine hg9 ?_
  clear hg9 gl9
  cases k with
  | zero => exact H.elim
  | succ k =>
  refine isTrue_plain ?_
  refine wpAny_pure (a := Value.bool true) ?_
  refine wpAny_truthy_bool ?_
  simp only [↓reduceIte]
  refine wpAny_execs_cons ?_
  refine Assign_Tuple ?_
  refine MethodCall_ ?_
  refine self_meth S.X B.fr m1 S.up ?_
  refine args_cons ?_
  refine nameX_L B.fr m4 ?_
  refine args_cons ?_
  refine nameX_L B.fr m5 ?_
  refine args_cons ?_
  refine nameX_L B.fr m3 ?_
  refine args_nil ?_
  refine ⟨B.fr.keep, bd_call (up_meets S D hW n _ _ _ _ _) B (by decide) (by decide) H hX (fun uv v _ _ _ H r B => ?_)⟩
  obtain ⟨up, one⟩ := uv
  refine hide fun gl9 hg9 => ?_
  obtain ⟨t', tu, rfl, ht⟩ := r
  refine hg9 ?_
  clear hg9 gl9
  refine bd_pairOf B ht (fun _ B => ?_)
  refine wpAny_execs_cons ?_
  refine wpAny_Expr ?_
  refine MethodCall_ ?_
  refine self_own S.X B.fr m1 S.hold ?_
  refine args_cons ?_
  refine nameX_L B.fr rfl ?_
  refine args_nil ?_
  refine ⟨B.fr.keep, bd_callE (D.hold _) B (by decide) (by decide) H hX (fun _ _ _ _ H B => ?_)⟩
  refine wpAny_execs_cons ?_
  refine Assign_Tuple ?_
  refine MethodCall_ ?_
  refine self_meth S.X B.fr m1 S.down ?_
  refine args_cons ?_
  refine nameX_L B.fr m4 ?_
  refine args_cons ?_
  refine nameX_L B.fr m6 ?_
  refine args_cons ?_
  refine nameX_L B.fr m2 ?_
  refine args_nil ?_
  refine ⟨B.fr.keep, bd_call (down_meets S D hW n _ _ _ _ _) B (by decide) (by decide) H hX (fun dv v _ _ _ H r B => ?_)⟩
  obtain ⟨down, other⟩ := dv
  refine hide fun gl9 hg9 => ?_
  obtain ⟨t', td, rfl, ht⟩ := r
  refine hg9 ?_
  clear hg9 gl9
  refine bd_pairOf B ht (fun _ B => ?_)
  refine wpAny_execs_cons ?_
  refine wpAny_Expr ?_
  refine MethodCall_ ?_
  refine self_own0 S.X B.fr m1 S.drop ?_
  refine bd_call (D.drop) B (by decide) (by decide) H hX (fun _ _ _ _ _ H r B => ?_)
  cases r
  refine wpAny_execs_cons ?_
  refine wpAny_If ?_
  refine wpAny_isTrue_Compare1 ?_
  refine nameX_L B.fr rfl ?_
  refine nameX_L B.fr rfl ?_
  refine lt_int ?_
  refine wpAny_truthy_bool ?_
  by_cases hlt : down < up
  · simp only [hlt, decide_true, ↓reduceIte] at H ⊢
    refine wpAny_execs_cons ?_
    refine wpAny_Break ?_
    refine wpAny_execs_cons ?_
    refine Assign_Tuple_swapped (names := ["last", "here"]) ?_
    refine Tuple_ ?_
    refine args_cons ?_
    refine MethodCall_ ?_
    refine self_own S.X B.fr m1 S.get ?_
    refine args_cons ?_
    refine wpAny_BinOp ?_
    refine nameX_L B.fr m3 ?_
    refine wpAny_Constant_int ?_
    refine PyProof.Rows.sub_int ?_
    refine args_nil ?_
    refine ⟨B.fr.keep, bd_callE (D.get _ _) B (by decide) (by decide) H hX (fun last _ _ _ H B => ?_)⟩
    refine args_cons ?_
    refine MethodCall_ ?_
    refine self_own S.X B.fr m1 S.get ?_
    refine args_cons ?_
    refine nameX_L B.fr rfl ?_
    refine args_nil ?_
    refine ⟨B.fr.keep, bd_callE (D.get _ _) B (by decide) (by decide) H hX (fun here _ _ _ H B => ?_)⟩
    refine args_nil ?_
    refine bd_pair B (fun h2 B => ?_)
    refine wpAny_execs_cons ?_
    refine wpAny_Expr ?_
    refine MethodCall_ ?_
    refine self_own S.X B.fr m1 S.put ?_
    refine args_cons ?_
    refine wpAny_BinOp ?_
    refine nameX_L B.fr m3 ?_
    refine wpAny_Constant_int ?_
    refine PyProof.Rows.sub_int ?_
    refine args_cons ?_
    refine nameX_L B.fr rfl ?_
    refine args_nil ?_
    refine ⟨B.fr.keep, bd_callE (D.put _ _ _) B (by decide) (by decide) H hX (fun _ _ _ _ H B => ?_)⟩
    refine wpAny_execs_cons ?_
    refine wpAny_Expr ?_
    refine MethodCall_ ?_
    refine self_own S.X B.fr m1 S.put ?_
    refine args_cons ?_
    refine nameX_L B.fr rfl ?_
    refine args_cons ?_
    refine nameX_L B.fr rfl ?_
    refine args_nil ?_
    refine ⟨B.fr.keep, bd_callE (D.put _ _ _) B (by decide) (by decide) H hX (fun _ _ _ _ H B => ?_)⟩
    refine wpAny_execs_cons ?_
    refine wpAny_Return_some ?_
    refine nameX_L B.fr rfl ?_
    exact hQ (.ret _) up _ _ _ H ⟨tu, rfl⟩ B.fr.keep B.run B.kp
  · simp only [hlt, decide_false, Bool.false_eq_true, ↓reduceIte] at H ⊢
    refine wpAny_execs_nil ?_
    refine wpAny_execs_cons ?_
    refine wpAny_Expr ?_
    refine MethodCall_ ?_
    refine self_own S.X B.fr m1 S.put ?_
    refine args_cons ?_
    refine nameX_L B.fr rfl ?_
    refine args_cons ?_
    refine nameX_L B.fr rfl ?_
    refine args_nil ?_
    refine ⟨B.fr.keep, bd_callE (D.put _ _ _) B (by decide) (by decide) H hX (fun _ _ _ _ H B => ?_)⟩
    refine wpAny_execs_cons ?_
    refine wpAny_Expr ?_
    refine MethodCall_ ?_
    refine self_own S.X B.fr m1 S.put ?_
    refine args_cons ?_
    refine nameX_L B.fr rfl ?_
    refine args_cons ?_
    refine nameX_L B.fr rfl ?_
    refine args_nil ?_
    refine ⟨B.fr.keep, bd_callE (D.put _ _ _) B (by decide) (by decide) H hX (fun _ _ _ _ H B => ?_)⟩
    refine wpAny_execs_nil ?_
    exact ⟨k, Nat.lt_succ_self k, _, _, _, _, _, _, _, _, rfl, B, H, m1, m2, m3, m4, rfl, rfl⟩
end
end Mine
end

section
open PySem PySem.W PySem.Calls PyProof.Rows
set_option Elab.async false
set_option maxRecDepth 100000
namespace Mine

section
variable {prog : Program} {w : World} {G : Heap} {c : Pl} {orel : ORel} {x fg fp fl fh fd : Addr} {dep un : Nat} {tl : Value → Value → Tr Bool}

set_option maxHeartbeats 8000000 in
theorem sort_step (S : Qs w G x fg fp fl fh fd) (D : Cs prog w G c orel tl fg fp fl fh fd) (hW : ∀ a ∈ c.W, G.get? a = none) (n k : Nat)
    (IH : ∀ j, j < k + 1 → ∀ (low high : Int) (t u : Tok), Meets prog w G c orel 31 (50 + j) (400 + 10 * j) (.ref 90) [.ref x, .int low t, .int high u] relU (tSort tl n j low high)) (low high : Int) (t u : Tok) :
    Meets prog w G c orel 31 (50 + (k + 1)) (400 + 10 * (k + 1)) (.ref 90) [.ref x, .int low t, .int high u] relU (tSort tl n (k + 1) low high) := by
  refine meets_fn (dep := 50 + k) (un := 400 + 10 * k + 7) (binds := [("self", _), ("low", _), ("high", _)]) S.nl hW (S.X _ _ (by rfl)) rfl (codeRec_of S.X (by kernel_rfl)) (fun s st => BindsTo.of_eq rfl) (locs rfl) (by decide) rfl rfl rfl ?_
  intro A outer L h₀ s σ Q E Qb Eb B H hQ hX hP
  refine wpAny_execs_cons ?_
  refine while_I (fun j s' => ∃ low high t u m σ h' tk, s' = { s with heap := h', toks := tk } ∧ Bd G c orel A outer _ L h₀ (50 + k) (400 + 10 * k + 7) m σ h' ∧ j ≤ k + 1 ∧ tSort tl n j low high Q E σ ∧
      m "self" = some (.ref x) ∧ m "low" = some (.int low t) ∧ m "high" = some (.int high u)) ?_ hP (k + 1) ⟨_, _, _, _, _, _, _, _, rfl, B, Nat.le_refl _, H, rfl, rfl, rfl⟩
  intro j s' hJ9
  refine hide fun gl9 hg9 => ?_
  obtain ⟨low, high, t, u, m, σ, h', tk, rfl, B, hj, H, m1, m2, m3⟩ := hJ9
  refine hg9 ?_
  clear hg9 gl9
  cases j with
  | zero => exact H.elim
  | succ j =>
  refine wpAny_isTrue_Compare1 ?_
  refine nameX_L B.fr m2 ?_
  refine nameX_L B.fr m3 ?_
  refine lt_int ?_
  refine wpAny_truthy_bool ?_
  by_cases hlt : low < high
  · simp only [tSort, hlt, decide_true, ↓reduceIte] at H ⊢
    refine wpAny_execs_cons ?_
    refine wpAny_Expr ?_
    refine MethodCall_ ?_
    refine self_meth S.X B.fr m1 S.two ?_
    refine args_cons ?_
    refine nameX_L B.fr m2 ?_
    refine args_cons ?_
    refine nameX_L B.fr m3 ?_
    refine args_nil ?_
    refine ⟨B.fr.keep, bd_callE (two_meets S D hW _ _ _ _) B (by lia) (by lia) H hX (fun _ _ _ _ H B => ?_)⟩
    refine wpAny_execs_cons ?_
    refine wpAny_If ?_
    refine wpAny_isTrue_Compare1 ?_
    refine wpAny_BinOp ?_
    refine nameX_L B.fr m3 ?_
    refine nameX_L B.fr m2 ?_
    refine PyProof.Rows.sub_int ?_
    refine wpAny_Constant_int ?_
    refine PyProof.Rows.eq_int ?_
    refine wpAny_truthy_bool ?_
    by_cases h1 : high - low = 1
    · simp only [h1, BEq.rfl, ↓reduceIte] at H ⊢
      refine wpAny_execs_cons ?_
      refine wpAny_Return_none ?_
      exact hQ (.ret .none) () _ _ _ H rfl B.fr.keep B.run B.kp
    have h1b : (high - low == 1) = false := by simpa using h1
    simp only [h1, h1b, Bool.false_eq_true, ↓reduceIte] at H ⊢
    refine wpAny_execs_nil ?_
    refine wpAny_execs_cons ?_
    refine wpAny_Expr ?_
    refine MethodCall_ ?_
    refine self_meth S.X B.fr m1 S.mid ?_
    refine args_cons ?_
    refine nameX_L B.fr m2 ?_
    refine args_cons ?_
    refine wpAny_BinOp ?_
    refine wpAny_BinOp ?_
    refine nameX_L B.fr m2 ?_
    refine nameX_L B.fr m3 ?_
    refine PyProof.Rows.add_int ?_
    refine wpAny_Constant_int ?_
    refine half_int ?_
    refine args_cons ?_
    refine nameX_L B.fr m3 ?_
    refine args_nil ?_
    refine ⟨B.fr.keep, bd_callE (mid_meets S D hW _ _ _ _ _ _) B (by lia) (by lia) H hX (fun _ _ _ _ H B => ?_)⟩
    refine wpAny_execs_cons ?_
    refine wpAny_If ?_
    refine wpAny_isTrue_Compare1 ?_
    refine wpAny_BinOp ?_
    refine nameX_L B.fr m3 ?_
    refine nameX_L B.fr m2 ?_
    refine PyProof.Rows.sub_int ?_
    refine wpAny_Constant_int ?_
    refine PyProof.Rows.eq_int ?_
    refine wpAny_truthy_bool ?_
    by_cases h2 : high - low = 2
    · simp only [h2, BEq.rfl, ↓reduceIte] at H ⊢
      refine wpAny_execs_cons ?_
      refine wpAny_Return_none ?_
      exact hQ (.ret .none) () _ _ _ H rfl B.fr.keep B.run B.kp
    have h2b : (high - low == 2) = false := by simpa using h2
    simp only [h2, h2b, Bool.false_eq_true, ↓reduceIte] at H ⊢
    refine wpAny_execs_nil ?_
    refine wpAny_execs_cons ?_
    refine wpAny_Assign_Name ?_
    refine MethodCall_ ?_
    refine self_meth S.X B.fr m1 S.part ?_
    refine args_cons ?_
    refine nameX_L B.fr m2 ?_
    refine args_cons ?_
    refine nameX_L B.fr m3 ?_
    refine args_nil ?_
    refine ⟨B.fr.keep, bd_call (part_meets S D hW n _ _ _ _) B (by lia) (by lia) H hX (fun seam v _ _ _ H r B => ?_)⟩
    obtain ⟨ts, rfl⟩ := r
    refine bd_store B (fun _ B => ?_)
    refine wpAny_execs_cons ?_
    refine wpAny_If ?_
    refine wpAny_isTrue_Compare1 ?_
    refine wpAny_BinOp ?_
    refine nameX_L B.fr rfl ?_
    refine nameX_L B.fr m2 ?_
    refine PyProof.Rows.sub_int ?_
    refine wpAny_BinOp ?_
    refine nameX_L B.fr m3 ?_
    refine nameX_L B.fr rfl ?_
    refine PyProof.Rows.sub_int ?_
    refine lt_int ?_
    refine wpAny_truthy_bool ?_
    by_cases hs : seam - low < high - seam
    · simp only [hs, decide_true, ↓reduceIte] at H ⊢
      refine wpAny_execs_cons ?_
      refine wpAny_Expr ?_
      refine MethodCall_ ?_
      refine self_meth S.X B.fr m1 S.sort ?_
      refine args_cons ?_
      refine nameX_L B.fr m2 ?_
      refine args_cons ?_
      refine wpAny_BinOp ?_
      refine nameX_L B.fr rfl ?_
      refine wpAny_Constant_int ?_
      refine PyProof.Rows.sub_int ?_
      refine args_nil ?_
      refine ⟨B.fr.keep, bd_callE (IH j (by lia) _ _ _ _) B (by lia) (by lia) H hX (fun _ _ _ _ H B => ?_)⟩
      refine wpAny_execs_cons ?_
      refine wpAny_Assign_Name ?_
      refine wpAny_BinOp ?_
      refine nameX_L B.fr rfl ?_
      refine wpAny_Constant_int ?_
      refine PyProof.Rows.add_int ?_
      refine bd_store B (fun _ B => ?_)
      refine wpAny_execs_nil ?_
      refine wpAny_execs_nil ?_
      exact ⟨j, Nat.lt_succ_self j, _, _, _, _, _, _, _, _, rfl, B, by lia, H, m1, rfl, m3⟩
    · simp only [hs, decide_false, Bool.false_eq_true, ↓reduceIte] at H ⊢
      refine wpAny_execs_cons ?_
      refine wpAny_Expr ?_
      refine MethodCall_ ?_
      refine self_meth S.X B.fr m1 S.sort ?_
      refine args_cons ?_
      refine wpAny_BinOp ?_
      refine nameX_L B.fr rfl ?_
      refine wpAny_Constant_int ?_
      refine PyProof.Rows.add_int ?_
      refine args_cons ?_
      refine nameX_L B.fr m3 ?_
      refine args_nil ?_
      refine ⟨B.fr.keep, bd_callE (IH j (by lia) _ _ _ _) B (by lia) (by lia) H hX (fun _ _ _ _ H B => ?_)⟩
      refine wpAny_execs_cons ?_
      refine wpAny_Assign_Name ?_
      refine wpAny_BinOp ?_
      refine nameX_L B.fr rfl ?_
      refine wpAny_Constant_int ?_
      refine PyProof.Rows.sub_int ?_
      refine bd_store B (fun _ B => ?_)
      refine wpAny_execs_nil ?_
      refine wpAny_execs_nil ?_
      exact ⟨j, Nat.lt_succ_self j, _, _, _, _, _, _, _, _, rfl, B, by lia, H, m1, m2, rfl⟩
  · simp only [tSort, hlt, decide_false, Bool.false_eq_true, ↓reduceIte] at H ⊢
    refine wpAny_execs_nil ?_
    exact hQ .next () _ _ _ H rfl B.fr.keep B.run B.kp

theorem sort_meets (S : Qs w G x fg fp fl fh fd) (D : Cs prog w G c orel tl fg fp fl fh fd) (hW : ∀ a ∈ c.W, G.get? a = none) (n : Nat) :
    ∀ (k : Nat) (low high : Int) (t u : Tok), Meets prog w G c orel 31 (50 + k) (400 + 10 * k) (.ref 90) [.ref x, .int low t, .int high u] relU (tSort tl n k low high) := by
  have all : ∀ m, ∀ j, j < m → ∀ (low high : Int) (t u : Tok), Meets prog w G c orel 31 (50 + j) (400 + 10 * j) (.ref 90) [.ref x, .int low t, .int high u] relU (tSort tl n j low high) := by
    intro m
    induction m with
    | zero => intro j hj; exact absurd hj (Nat.not_lt_zero _)
    | succ m ih =>
      intro j hj low high t u
      cases j with
      | zero => intro A outer s σ R Q E ok st run H; exact H.elim
      | succ k => exact sort_step S D hW n k (fun j hj' => ih j (by lia)) low high t u
  exact fun k => all (k + 1) k (Nat.lt_succ_self k)
end
end Mine
end

section
open PySem PySem.W PySem.Calls PyProof.Rows
set_option Elab.async false
set_option maxRecDepth 100000
namespace Mine

/-! pieces of the text, by their places -/
def sBody : Stmt → List Stmt | .FunctionDef _ _ b _ _ _ _ _ _ _ => b | _ => []
def sArgs : Stmt → Arguments | .FunctionDef _ a _ _ _ _ _ _ _ _ => a | _ => { posonlyargs := [], args := [], vararg := none, kwonlyargs := [], kw_defaults := [], kwarg := none, defaults := [] }
def sScope : Stmt → Scope | .FunctionDef _ _ _ _ _ _ s _ _ _ => s | _ => default
def topS (i : Nat) : Stmt := PySem.Challenge.pw_nt0631_01.main.body.getD i (.Pass ⟨0, 0, 0, 0⟩)
def innS (i j : Nat) : Stmt := (sBody (topS i)).getD j (.Pass ⟨0, 0, 0, 0⟩)

/-- a def made within a call stands at f -/
structure FnIs (G : Heap) (f : Addr) (st : Stmt) (name qual : Str) (cl : List (Str × Addr)) : Prop where
  at_ : ∃ c' doc pm ctv, G.get? f = some (fnMade name qual (sArgs st) (sBody st) (sScope st) cl doc pm c' ctv) ∧ G.CodeRec (.ref c') qual
theorem FnIs.fn {G : Heap} {f : Addr} {st : Stmt} {name qual : Str} {cl : List (Str × Addr)} (x : FnIs G f st name qual cl) : FnAt f G := let ⟨_, _, _, _, e, _⟩ := x.at_; ⟨_, _, _, _, e⟩
theorem FnIs.keeps {G G' : Heap} {f : Addr} {st : Stmt} {name qual : Str} {cl : List (Str × Addr)} (k : ∀ b o, G.get? b = some o → G'.get? b = some o) (x : FnIs G f st name qual cl) : FnIs G' f st name qual cl :=
  let ⟨c', doc, pm, ctv, e, r⟩ := x.at_; ⟨c', doc, pm, ctv, k _ _ e, r.keeps k⟩

section
variable {prog : Program} {w : World} {G : Heap} {c : Pl} {orel : ORel} {C : Addr} {A : Around} {outer : List Env} {env : Env} {L : Addr} {h₀ h h' : Heap} {dep un : Nat} {m m' : Str → Option Value} {σ σ' : Sg} {E : Value → Shared → Prop} {s : Shared}

theorem plain_same {l l' : Addr} {its : Array Value} (x : h.PlainList l its) (hs : Heap.SameBut l' h h') (hn : l ≠ l') : h'.PlainList l its := let ⟨n, e⟩ := x; ⟨n, (hs.2 l hn).trans e⟩

/-- one of the lists turns -/
theorem Bd.setList {a : Addr} (B : Bd G c orel A outer env L h₀ dep un m σ h) (hW : ∀ a ∈ c.W, G.get? a = none) (ha : a ∈ c.W) (hs : Heap.SameBut a h h') (R' : Run c orel σ' h') : Bd G c orel A outer env L h₀ dep un m σ' h' := by
  have k : Kp c.W h h' := fun b o hb e => (hs.2 b (fun q => hb (q ▸ ha))).trans e
  exact { B with
    fr := ⟨k.ns B.lw B.fr.ns, fun b o e => (hs.2 b (fun q => by rw [q, hW a ha] at e; cases e)).trans (B.fr.keep b o e), B.fr.above⟩
    run := R'
    kp := B.kp.trans k
    ff := B.ff.kp k }

theorem Pl.ne {c : Pl} (nd : c.W.Nodup) : c.aP ≠ c.aS ∧ c.aP ≠ c.aH ∧ c.aP ≠ c.aK ∧ c.aP ≠ c.aO ∧ c.aS ≠ c.aH ∧ c.aS ≠ c.aK ∧ c.aS ≠ c.aO ∧ c.aH ≠ c.aK ∧ c.aH ≠ c.aO ∧ c.aK ≠ c.aO := by
  simp only [Pl.W, List.nodup_cons, List.mem_cons, List.not_mem_nil, or_false, not_or] at nd
  refine hide fun gl9 hg9 => ?_
  obtain ⟨⟨a, b, d, e⟩, ⟨f, g, i⟩, ⟨j, k⟩, l, _⟩ := nd
  refine hg9 ?_
  clear hg9 gl9
  exact ⟨a, b, d, e, f, g, i, j, k, l⟩

theorem free_G {M : Model} {cn : Str} {cs : Scope} {a : Addr} {ccd : Value} {cl : List (Str × Addr)} {x : Str} {pos : Pos} {v : Value} {ca : Addr} {Q : Value → Shared → Prop} (F : Fr G L s.heap m) (hc : cl.lookup x = some ca) (hv : G.IsCell ca (some v)) (h : Q v s)
    (hk : cs.kind = .function := by rfl) (hx : (envX cn cs L a ccd cl).kindOf x = some .free := by rfl) (hb : (x == ("__debug__" : Str)) = false := by decide) (hn : (x == ("__classdict__" : Str)) = false := by decide) :
    wpAny M A (eval (.Name x pos) (envX cn cs L a ccd cl)) Q E s := wpAny_Name (wpAny_loadName_free hk hx hc (hv.keeps F.keep) h hn) hb

/-- x.append(v) on a list at hand -/
theorem meth_plain {l : Addr} {its : Array Value} {name : Str} {id : String} {pl : Sem Bool} {Q : Value × List Value → Shared → Prop} (hl : s.heap.PlainList l its) (slot : Slot "list" name id) (hty : typeOf (.builtin id) = pure (.type "method_descriptor"))
    (h : Q (.builtin id, [.ref l]) s) : wpAny (model prog w) A (getMethod (.ref l) name pl) Q E s := by
  obtain ⟨n, e⟩ := hl
  exact getMethod_builtin ⟨_, e, rfl⟩ PySem.F.plainAttrs_list slot hty (fun a q => by cases q; exact ⟨_, e, rfl⟩) h

theorem lim_is : lim = 1000000 := rfl

theorem run_seen {vs : List Value} {i : Int} {t : Tok} (R : Run c orel σ h) (nd : c.W.Nodup) (hl : h'.PlainList c.aS (vs ++ [Value.int i t]).toArray) (hi : IntsAre vs σ.S) (hs : Heap.SameBut c.aS h h') : Run c orel { σ with S := σ.S ++ [i], n := σ.n + 1 } h' := by
  refine hide fun gl9 hg9 => ?_
  obtain ⟨n1, n2, n3, n4, n5, n6, n7, n8, n9, n10⟩ := Pl.ne nd
  refine hg9 ?_
  clear hg9 gl9
  refine hide fun gl9 hg9 => ?_
  obtain ⟨p, _, hh, kk, ⟨vo, o1, o2⟩, a, b, cc, d, e, f, g⟩ := R
  refine hg9 ?_
  clear hg9 gl9
  refine ⟨plain_same p hs n1, ⟨_, hl, hi.append (.cons i t .nil)⟩, plain_same hh hs n5.symm, plain_same kk hs n6.symm, ⟨vo, plain_same o1 hs n7.symm, o2⟩, a, ?_, Nat.le_succ_of_le cc, Nat.le_succ_of_le d, e, f, g⟩
  show (σ.S ++ [i]).length ≤ σ.n + 1
  rw [List.length_append]
  exact Nat.succ_le_succ b

/-- l.append(v) -/
theorem app_plain {l : Addr} {vs : List Value} {v : Value} {Q : Value → Shared → Prop} (hl : s.heap.PlainList l vs.toArray) (hsz : vs.length ≤ sizeLine)
    (h : ∀ h', h'.PlainList l (vs ++ [v]).toArray → Heap.SameBut l s.heap h' → Q .none { s with heap := h' }) : wpAny (model prog w) A (call (.builtin "list.append") [.ref l, v]) Q E s :=
  wpAny_list_append_plain hl (fun h' p hs => h h' (by simpa using p) hs) (by simpa using hsz)

set_option maxHeartbeats 4000000 in
theorem read_meets (hG : G.NoLimit) (hW : ∀ a ∈ c.W, G.get? a = none) (nd : c.W.Nodup) {fg cP cS : Addr} {cl : List (Str × Addr)} (Fn : FnIs G fg (innS 6 1) "read" "_law_run.<locals>.read" cl)
    (h1 : cl.lookup ("places" : Str) = some cP) (h2 : cl.lookup ("seen" : Str) = some cS) (k1 : G.IsCell cP (some (.ref c.aP))) (k2 : G.IsCell cS (some (.ref c.aS))) (i : Int) (t : Tok) :
    Meets prog w G c orel 31 20 100 (.ref fg) [.int i t] relV (tGet i) := by
  refine hide fun gl9 hg9 => ?_
  obtain ⟨c', doc, pm, ctv, ho, hcd⟩ := Fn.at_
  refine hg9 ?_
  clear hg9 gl9
  refine meets_fn (dep := 19) (un := 97) (binds := [("at", _)]) hG hW ho rfl hcd (fun s st => BindsTo.of_eq rfl) (locs rfl) (by decide) rfl rfl rfl ?_
  intro A outer L h₀ s σ Q E Qb Eb B H hQ hX hP
  refine hide fun gl9 hg9 => ?_
  obtain ⟨h0, hn, v, hv, Hq⟩ := H
  refine hg9 ?_
  clear hg9 gl9
  refine hide fun gl9 hg9 => ?_
  obtain ⟨vs, s1, s2⟩ := B.run.s
  refine hg9 ?_
  clear hg9 gl9
  have hlen : vs.length ≤ sizeLine := by have := s2.length; have := B.run.bS; rw [lim_is] at hn; rw [sizeLine_eq]; lia
  have hi63 : i < 2 ^ 63 := by have := B.run.pl; have := (List.getElem?_eq_some_iff.mp hv).1; lia
  refine wpAny_execs_cons ?_
  refine wpAny_Expr ?_
  refine MethodCall_ ?_
  refine free_G B.fr h2 k2 ?_
  refine meth_plain s1 PySem.slot_list_append PySem.type_list_append ?_
  refine callWith_method1 ?_
  refine args_cons ?_
  refine nameX_L B.fr rfl ?_
  refine args_nil ?_
  refine app_plain s1 hlen (fun h' p hs => ?_)
  have B' := B.setList hW (by simp [Pl.W]) hs (run_seen B.run nd p s2 hs)
  refine wpAny_execs_cons ?_
  refine wpAny_Return_some ?_
  refine Subscript_ ?_
  refine free_G B'.fr h1 k1 ?_
  refine nameX_L B'.fr rfl ?_
  refine item_listL B'.run.p.isList h0 hi63 hv ?_
  exact hQ (.ret v) v _ _ _ (Hq (B.run.vp v (List.mem_of_getElem? hv))) rfl B'.fr.keep B'.run B'.kp
end
end Mine
end

section
open PySem PySem.W PySem.Calls PyProof.Rows
set_option Elab.async false
set_option maxRecDepth 100000
namespace Mine

section
variable {prog : Program} {w : World} {G : Heap} {c : Pl} {orel : ORel} {C : Addr} {A : Around} {outer : List Env} {env : Env} {L : Addr} {h₀ h h' : Heap} {dep un : Nat} {m m' : Str → Option Value} {σ σ' : Sg} {E : Value → Shared → Prop} {s : Shared}

theorem plain_update {l : Addr} {its : Array Value} (f : Array Value → Array Value) (x : h.PlainList l its) : (h.update l (Obj.mapSeq f)).PlainList l (f its) :=
  let ⟨_, e⟩ := x; ⟨_, PySem.IsL.update e f⟩

/-- l[i] = v -/
theorem set_plain' {l : Addr} {vs : List Value} {i : Int} {t : Tok} {v : Value} {Q : Unit → Shared → Prop} (hl : s.heap.PlainList l vs.toArray) (h0 : 0 ≤ i) (hn : i.toNat < vs.length) (hfit : i < 2 ^ 63)
    (h : ∀ h', h'.PlainList l (vs.set i.toNat v).toArray → Heap.SameBut l s.heap h' → Q () { s with heap := h' }) : wpAny (model prog w) A (setItem (.ref l) (.int i t) v) Q E s := by
  have q := plain_update (·.setIfInBounds i.toNat v) hl
  obtain ⟨n, e⟩ := hl
  refine ki_setAt e h0 hfit (by rw [List.size_toArray]; lia) (h _ ?_ (Heap.SameBut.update ..))
  have e2 : vs.toArray.setIfInBounds i.toNat v = (vs.set i.toNat v).toArray := by
    apply Array.toList_inj.mp
    simp
  rw [e2] at q
  exact q

/-- l.pop() -/
theorem pop_plain {l : Addr} {vs : List Value} {y : Value} {Q : Value → Shared → Prop} (hl : s.heap.PlainList l (vs ++ [y]).toArray) (hsz : vs.length + 1 ≤ sizeLine)
    (h : ∀ h', h'.PlainList l vs.toArray → Heap.SameBut l s.heap h' → Q y { s with heap := h' }) : wpAny (model prog w) A (call (.builtin "list.pop") [.ref l]) Q E s := by
  have q := plain_update (fun xs => xs.eraseIdxIfInBounds ((vs ++ [y]).toArray.size - 1)) hl
  obtain ⟨n, e⟩ := hl
  have hz' : (vs ++ [y]).toArray.size ≤ sizeLine := by rw [List.size_toArray, List.length_append]; exact hsz
  have hk : (vs ++ [y]).toArray.size - 1 = vs.length := by rw [List.size_toArray, List.length_append]; rfl
  have hy : (vs ++ [y]).toArray[(vs ++ [y]).toArray.size - 1]? = some y := by rw [hk]; simp
  refine call_meets PySem.F.slot_list_pop ⟨_, e, rfl⟩ PySem.F.entry_list_pop (PySem.F.args_list_pop_1 _) (PySem.MeetsSeq.list_pop_last l _ n y hy hz') ⟨e, h _ ?_ (Heap.SameBut.update ..)⟩
  rw [hk, kl_erase, List.append_nil] at q
  rw [hk]
  exact q

/-- l.pop(i) -/
theorem popAt_plain {l : Addr} {p q : List Value} {y : Value} {i : Int} {u : Tok} {Q : Value → Shared → Prop} (hl : s.heap.PlainList l (p ++ y :: q).toArray) (hsz : p.length + q.length + 1 ≤ sizeLine) (hi : i = p.length)
    (h : ∀ h', h'.PlainList l (p ++ q).toArray → Heap.SameBut l s.heap h' → Q y { s with heap := h' }) : wpAny (model prog w) A (call (.builtin "list.pop") [.ref l, .int i u]) Q E s := by
  have hp63 : (p.length : Int) < 2 ^ 63 := by
    have h1 : p.length + q.length + 1 ≤ 16777216 := by rw [← sizeLine_eq]; exact hsz
    clear hsz hl h
    lia
  have q' := plain_update (fun xs => xs.eraseIdxIfInBounds p.length) hl
  obtain ⟨n, e⟩ := hl
  have hz' : (p ++ y :: q).toArray.size ≤ sizeLine := by rw [List.size_toArray, List.length_append, List.length_cons]; lia
  have hy : (p ++ y :: q).toArray[p.length]? = some y := by simp
  have hk : seqIndex? i (p ++ y :: q).toArray.size = some p.length := by
    rw [hi, seqIndex_of (by lia) (by rw [List.size_toArray, List.length_append, List.length_cons]; lia)]; simp
  have hf : Builtin.List.listFitsIndex i = true := fitsIndex_of (by lia) (hi ▸ hp63)
  refine call_meets PySem.F.slot_list_pop ⟨_, e, rfl⟩ PySem.F.entry_list_pop (PySem.F.args_list_pop_2 _ _) (PySem.MeetsSeq.list_pop_at l _ n i u _ y hf hk hy hz') ⟨e, h _ ?_ (Heap.SameBut.update ..)⟩
  rw [kl_erase] at q'
  exact q'

theorem run_put {i : Int} {v : Value} (R : Run c orel σ h) (nd : c.W.Nodup) (hv : VOk v) (hl : h'.PlainList c.aP (σ.P.set i.toNat v).toArray) (hs : Heap.SameBut c.aP h h') : Run c orel { σ with P := σ.P.set i.toNat v } h' := by
  refine hide fun gl9 hg9 => ?_
  obtain ⟨n1, n2, n3, n4, n5, n6, n7, n8, n9, n10⟩ := Pl.ne nd
  refine hg9 ?_
  clear hg9 gl9
  refine hide fun gl9 hg9 => ?_
  obtain ⟨p, ⟨vs, s1, s2⟩, hh, kk, ⟨vo, o1, o2⟩, a, b, cc, d, e, f, g⟩ := R
  refine hg9 ?_
  clear hg9 gl9
  refine ⟨hl, ⟨vs, plain_same s1 hs n1.symm, s2⟩, plain_same hh hs n2.symm, plain_same kk hs n3.symm, ⟨vo, plain_same o1 hs n4.symm, o2⟩, ?_, b, cc, d, fun u hu => ?_, f, g⟩
  · rw [List.length_set]; exact a
  · rcases List.mem_or_eq_of_mem_set hu with q | q
    · exact e u q
    · exact q ▸ hv

set_option maxHeartbeats 4000000 in
theorem write_meets (hG : G.NoLimit) (hW : ∀ a ∈ c.W, G.get? a = none) (nd : c.W.Nodup) {fp cP cS : Addr} {cl : List (Str × Addr)} (Fn : FnIs G fp (innS 6 2) "write" "_law_run.<locals>.write" cl)
    (h1 : cl.lookup ("places" : Str) = some cP) (h2 : cl.lookup ("seen" : Str) = some cS) (k1 : G.IsCell cP (some (.ref c.aP))) (k2 : G.IsCell cS (some (.ref c.aS))) (i : Int) (t : Tok) (v : Value) :
    Meets prog w G c orel 31 20 100 (.ref fp) [.int i t, v] relU (tPut i v) := by
  refine hide fun gl9 hg9 => ?_
  obtain ⟨c', doc, pm, ctv, ho, hcd⟩ := Fn.at_
  refine hg9 ?_
  clear hg9 gl9
  refine meets_fn (dep := 19) (un := 97) (binds := [("at", _), ("value", _)]) hG hW ho rfl hcd (fun s st => BindsTo.of_eq rfl) (locs rfl) (by decide) rfl rfl rfl ?_
  intro A outer L h₀ s σ Q E Qb Eb B H hQ hX hP
  refine hide fun gl9 hg9 => ?_
  obtain ⟨h0, hi, hn, hv, Hq⟩ := H
  refine hg9 ?_
  clear hg9 gl9
  refine hide fun gl9 hg9 => ?_
  obtain ⟨vs, s1, s2⟩ := B.run.s
  refine hg9 ?_
  clear hg9 gl9
  have hlen : vs.length ≤ sizeLine := by have := s2.length; have := B.run.bS; rw [lim_is] at hn; rw [sizeLine_eq]; lia
  have hi63 : i < 2 ^ 63 := by have := B.run.pl; lia
  refine wpAny_execs_cons ?_
  refine wpAny_Expr ?_
  refine MethodCall_ ?_
  refine free_G B.fr h2 k2 ?_
  refine meth_plain s1 PySem.slot_list_append PySem.type_list_append ?_
  refine callWith_method1 ?_
  refine args_cons ?_
  refine nameX_L B.fr rfl ?_
  refine args_nil ?_
  refine app_plain s1 hlen (fun h' p hs => ?_)
  have B' := B.setList hW (by simp [Pl.W]) hs (run_seen B.run nd p s2 hs)
  refine wpAny_execs_cons ?_
  refine wpAny_Assign_Subscript ?_
  refine nameX_L B'.fr rfl ?_
  refine free_G B'.fr h1 k1 ?_
  refine nameX_L B'.fr rfl ?_
  refine set_plain' B'.run.p h0 hi hi63 (fun h'' p2 hs2 => ?_)
  have B2 := B'.setList hW (by simp [Pl.W]) hs2 (run_put B'.run nd hv p2 hs2)
  refine wpAny_execs_nil ?_
  exact hQ .next () _ _ _ Hq rfl B2.fr.keep B2.run B2.kp

theorem run_held {v : Value} (R : Run c orel σ h) (nd : c.W.Nodup) (hv : VOk v) {h'' : Heap} (hl : h'.PlainList c.aH (σ.H ++ [v]).toArray) (hs : Heap.SameBut c.aH h h') (hl2 : h''.PlainList c.aK (σ.K ++ [v]).toArray) (hs2 : Heap.SameBut c.aK h' h'') :
    Run c orel { σ with H := σ.H ++ [v], K := σ.K ++ [v], n := σ.n + 1 } h'' := by
  refine hide fun gl9 hg9 => ?_
  obtain ⟨n1, n2, n3, n4, n5, n6, n7, n8, n9, n10⟩ := Pl.ne nd
  refine hg9 ?_
  clear hg9 gl9
  refine hide fun gl9 hg9 => ?_
  obtain ⟨p, ⟨vs, s1, s2⟩, hh, kk, ⟨vo, o1, o2⟩, a, b, cc, d, e, f, g⟩ := R
  refine hg9 ?_
  clear hg9 gl9
  refine ⟨plain_same (plain_same p hs n2) hs2 n3, ⟨vs, plain_same (plain_same s1 hs n5) hs2 n6, s2⟩, plain_same hl hs2 n8, hl2, ⟨vo, plain_same (plain_same o1 hs n9.symm) hs2 n10.symm, o2⟩, a, Nat.le_succ_of_le b, ?_, ?_, e, fun u hu => ?_, g⟩
  · show (σ.H ++ [v]).length ≤ σ.n + 1
    rw [List.length_append]; exact Nat.succ_le_succ cc
  · show (σ.K ++ [v]).length ≤ σ.n + 1
    rw [List.length_append]; exact Nat.succ_le_succ d
  · rcases List.mem_append.mp hu with q | q
    · exact f u q
    · rw [List.mem_singleton.mp q]; exact hv

set_option maxHeartbeats 4000000 in
theorem keep_meets (hG : G.NoLimit) (hW : ∀ a ∈ c.W, G.get? a = none) (nd : c.W.Nodup) {fh cH cK : Addr} {cl : List (Str × Addr)} (Fn : FnIs G fh (innS 6 3) "keep" "_law_run.<locals>.keep" cl)
    (h1 : cl.lookup ("held" : Str) = some cH) (h2 : cl.lookup ("kept" : Str) = some cK) (k1 : G.IsCell cH (some (.ref c.aH))) (k2 : G.IsCell cK (some (.ref c.aK))) (v : Value) :
    Meets prog w G c orel 31 20 100 (.ref fh) [v] relU (tHold v) := by
  refine hide fun gl9 hg9 => ?_
  obtain ⟨c', doc, pm, ctv, ho, hcd⟩ := Fn.at_
  refine hg9 ?_
  clear hg9 gl9
  refine hide fun gl9 hg9 => ?_
  obtain ⟨_, _, _, _, _, _, _, n8, _, _⟩ := Pl.ne nd
  refine hg9 ?_
  clear hg9 gl9
  refine meets_fn (dep := 19) (un := 97) (binds := [("value", _)]) hG hW ho rfl hcd (fun s st => BindsTo.of_eq rfl) (locs rfl) (by decide) rfl rfl rfl ?_
  intro A outer L h₀ s σ Q E Qb Eb B H hQ hX hP
  refine hide fun gl9 hg9 => ?_
  obtain ⟨hn, hv, Hq⟩ := H
  refine hg9 ?_
  clear hg9 gl9
  have hlenH : σ.H.length ≤ sizeLine := by have := B.run.bH; rw [lim_is] at hn; rw [sizeLine_eq]; lia
  have hlenK : σ.K.length ≤ sizeLine := by have := B.run.bK; rw [lim_is] at hn; rw [sizeLine_eq]; lia
  refine wpAny_execs_cons ?_
  refine wpAny_Expr ?_
  refine MethodCall_ ?_
  refine free_G B.fr h1 k1 ?_
  refine meth_plain B.run.hh PySem.slot_list_append PySem.type_list_append ?_
  refine callWith_method1 ?_
  refine args_cons ?_
  refine nameX_L B.fr rfl ?_
  refine args_nil ?_
  refine app_plain B.run.hh hlenH (fun h' p hs => ?_)
  have F' : Fr G L h' _ := ⟨B.fr.ns.sameBut hs (fun q => B.lw (q ▸ by simp [Pl.W])), fun b o e => (hs.2 b (fun q => by rw [q, hW c.aH (by simp [Pl.W])] at e; cases e)).trans (B.fr.keep b o e), B.fr.above⟩
  refine wpAny_execs_cons ?_
  refine wpAny_Expr ?_
  refine MethodCall_ ?_
  refine free_G F' h2 k2 ?_
  refine meth_plain (plain_same B.run.k hs n8.symm) PySem.slot_list_append PySem.type_list_append ?_
  refine callWith_method1 ?_
  refine args_cons ?_
  refine nameX_L F' rfl ?_
  refine args_nil ?_
  refine app_plain (plain_same B.run.k hs n8.symm) hlenK (fun h'' p2 hs2 => ?_)
  have R2 := run_held B.run nd hv p hs p2 hs2
  refine wpAny_execs_nil ?_
  refine hQ .next () _ _ _ Hq rfl (fun b o e => (hs2.2 b (fun q => by rw [q, hW c.aK (by simp [Pl.W])] at e; cases e)).trans (F'.keep b o e)) R2 fun b o hb e => ?_
  exact (hs2.2 b (fun q => hb (q ▸ by simp [Pl.W]))).trans ((hs.2 b (fun q => hb (q ▸ by simp [Pl.W]))).trans (B.kp b o hb e))

set_option maxHeartbeats 4000000 in
theorem drop_meets (hG : G.NoLimit) (hW : ∀ a ∈ c.W, G.get? a = none) (nd : c.W.Nodup) {fd cH : Addr} {cl : List (Str × Addr)} (Fn : FnIs G fd (innS 6 4) "let_go" "_law_run.<locals>.let_go" cl)
    (h1 : cl.lookup ("held" : Str) = some cH) (k1 : G.IsCell cH (some (.ref c.aH))) :
    Meets prog w G c orel 31 20 100 (.ref fd) [] relU tDrop := by
  refine hide fun gl9 hg9 => ?_
  obtain ⟨c', doc, pm, ctv, ho, hcd⟩ := Fn.at_
  refine hg9 ?_
  clear hg9 gl9
  refine hide fun gl9 hg9 => ?_
  obtain ⟨n1, n2, n3, n4, n5, n6, n7, n8, n9, n10⟩ := Pl.ne nd
  refine hg9 ?_
  clear hg9 gl9
  refine meets_fn (dep := 19) (un := 97) (binds := []) hG hW ho rfl hcd (fun s st => BindsTo.of_eq rfl) (locs rfl) (by decide) rfl rfl rfl ?_
  intro A outer L h₀ s σ Q E Qb Eb B H hQ hX hP
  refine hide fun gl9 hg9 => ?_
  obtain ⟨hne, hn, Hq⟩ := H
  refine hg9 ?_
  clear hg9 gl9
  have hsp := List.dropLast_concat_getLast hne
  have hlenH : σ.H.dropLast.length + 1 ≤ sizeLine := by have := B.run.bH; rw [List.length_dropLast]; rw [lim_is] at hn; rw [sizeLine_eq]; lia
  have hl := B.run.hh
  rw [← hsp] at hl
  have hv := B.run.vh _ (List.getLast_mem hne)
  refine wpAny_execs_cons ?_
  refine wpAny_Expr ?_
  refine MethodCall_ ?_
  refine free_G B.fr h1 k1 ?_
  refine meth_plain hl PySem.F.slot_list_pop PySem.F.type_list_pop ?_
  refine callWith_method0 ?_
  refine pop_plain hl hlenH (fun h' p hs => ?_)
  have B' := B.setList (σ' := { σ with H := σ.H.dropLast, n := σ.n + 1 }) hW (a := c.aH) (by simp [Pl.W]) hs (by
    obtain ⟨p', ⟨vs, s1, s2⟩, hh, kk, ⟨vo, o1, o2⟩, a, b, cc, d, e, f, g⟩ := B.run
    refine ⟨plain_same p' hs n2, ⟨vs, plain_same s1 hs n5, s2⟩, p, plain_same kk hs n8.symm, ⟨vo, plain_same o1 hs n9.symm, o2⟩, a, Nat.le_succ_of_le b, ?_, Nat.le_succ_of_le d, e, fun u hu => f u (List.dropLast_subset _ hu), g⟩
    show σ.H.dropLast.length ≤ σ.n + 1
    rw [List.length_dropLast]; lia)
  generalize σ.H.getLast hne = y at hv
  rcases hv with ⟨i, t, rfl⟩ | ⟨t, rfl⟩ | ⟨t, rfl⟩ <;>
  · refine wpAny_execs_nil ?_
    exact hQ .next () _ _ _ Hq rfl B'.fr.keep B'.run B'.kp
end
end Mine
end

section
open PySem PySem.W PySem.Calls PyProof.Rows PySem.Spec PySem.SeqAt PyProof.V
set_option Elab.async false
set_option maxRecDepth 100000
namespace Mine

/-- the orders out of the script -/
def tlLt (f : Int → Int → Bool) (a b : Value) : Tr Bool := fun Q _ σ => ∃ i t j u, a = .int i t ∧ b = .int j u ∧ Q (f i j) σ
/-- the answers of a row -/
def tlRow (_ _ : Value) : Tr Bool := fun Q _ σ => match σ.O with | [] => Q false σ | b :: r => Q b { σ with O := r }
/-- any answers, till the order gives up -/
def tlChance (_ _ : Value) : Tr Bool := fun Q E σ => match σ.O with | [] => E σ | b :: r => Q b { σ with O := r }

def oAny : ORel := fun _ _ => True
def oRow : ORel := fun O vs => vs = O.map .bool
def future (tb : List Bool) (k : Nat) : List Bool := (List.range (80 - k)).map fun j => tb.getD ((k + 1 + j) * 7 % tb.length) false
def oChance (tb : List Bool) : ORel := fun O vs => ∃ (k : Nat) (t : Tok), vs = [.int (k : Int) t] ∧ O = future tb k

theorem future_nil (tb : List Bool) {k : Nat} (h : 80 ≤ k) : future tb k = [] := by
  unfold future
  rw [show 80 - k = 0 by lia]; rfl
theorem future_cons (tb : List Bool) {k : Nat} (h : k < 80) : future tb k = tb.getD ((k + 1) * 7 % tb.length) false :: future tb (k + 1) := by
  unfold future
  rw [show 80 - k = (80 - (k + 1)) + 1 by lia, List.range_succ_eq_map, List.map_cons, List.map_map]
  rw [List.cons.injEq]
  refine ⟨by simp, List.map_congr_left fun j _ => ?_⟩
  show tb.getD ((k + 1 + (j + 1)) * 7 % tb.length) false = _
  rw [show k + 1 + (j + 1) = k + 1 + 1 + j by lia]

section
variable {prog : Program} {w : World} {G : Heap} {c : Pl} {orel : ORel} {C : Addr} {A : Around} {outer : List Env} {env : Env} {L : Addr} {h₀ h h' : Heap} {dep un : Nat} {m m' : Str → Option Value} {σ σ' : Sg} {E : Value → Shared → Prop} {s : Shared}

set_option maxHeartbeats 4000000 in
theorem lt_meets (hG : G.NoLimit) (hW : ∀ a ∈ c.W, G.get? a = none) {fl : Addr} {cl : List (Str × Addr)} (Fn : FnIs G fl (innS 5 1) "up" "_law_less.<locals>.up" cl) (a b : Value) :
    Meets prog w G c orel 31 20 100 (.ref fl) [a, b] relB (tlLt (fun i j => decide (i < j)) a b) := by
  refine hide fun gl9 hg9 => ?_
  obtain ⟨c', doc, pm, ctv, ho, hcd⟩ := Fn.at_
  refine hg9 ?_
  clear hg9 gl9
  refine meets_fn (dep := 19) (un := 97) (binds := [("one", _), ("other", _)]) hG hW ho rfl hcd (fun s st => BindsTo.of_eq rfl) (locs rfl) (by decide) rfl rfl rfl ?_
  intro A outer L h₀ s σ Q E Qb Eb B H hQ hX hP
  refine hide fun gl9 hg9 => ?_
  obtain ⟨i, t, j, u, rfl, rfl, Hq⟩ := H
  refine hg9 ?_
  clear hg9 gl9
  refine wpAny_execs_cons ?_
  refine wpAny_Return_some ?_
  refine wpAny_Compare1 ?_
  refine nameX_L B.fr rfl ?_
  refine nameX_L B.fr rfl ?_
  refine lt_int ?_
  exact hQ (.ret _) _ _ _ _ Hq rfl B.fr.keep B.run B.kp

set_option maxHeartbeats 4000000 in
theorem gt_meets (hG : G.NoLimit) (hW : ∀ a ∈ c.W, G.get? a = none) {fl : Addr} {cl : List (Str × Addr)} (Fn : FnIs G fl (innS 5 2) "down" "_law_less.<locals>.down" cl) (a b : Value) :
    Meets prog w G c orel 31 20 100 (.ref fl) [a, b] relB (tlLt (fun i j => decide (j < i)) a b) := by
  refine hide fun gl9 hg9 => ?_
  obtain ⟨c', doc, pm, ctv, ho, hcd⟩ := Fn.at_
  refine hg9 ?_
  clear hg9 gl9
  refine meets_fn (dep := 19) (un := 97) (binds := [("one", _), ("other", _)]) hG hW ho rfl hcd (fun s st => BindsTo.of_eq rfl) (locs rfl) (by decide) rfl rfl rfl ?_
  intro A outer L h₀ s σ Q E Qb Eb B H hQ hX hP
  refine hide fun gl9 hg9 => ?_
  obtain ⟨i, t, j, u, rfl, rfl, Hq⟩ := H
  refine hg9 ?_
  clear hg9 gl9
  refine wpAny_execs_cons ?_
  refine wpAny_Return_some ?_
  refine wpAny_Compare1 ?_
  refine nameX_L B.fr rfl ?_
  refine nameX_L B.fr rfl ?_
  refine gt_int ?_
  exact hQ (.ret _) _ _ _ _ Hq rfl B.fr.keep B.run B.kp

set_option maxHeartbeats 4000000 in
theorem rest_meets (hG : G.NoLimit) (hW : ∀ a ∈ c.W, G.get? a = none) {fl : Addr} {cl : List (Str × Addr)} (Fn : FnIs G fl (innS 5 3) "by_rest" "_law_less.<locals>.by_rest" cl) (a b : Value) :
    Meets prog w G c orel 31 20 100 (.ref fl) [a, b] relB (tlLt (fun i j => decide (i.fmod 4 < j.fmod 4)) a b) := by
  refine hide fun gl9 hg9 => ?_
  obtain ⟨c', doc, pm, ctv, ho, hcd⟩ := Fn.at_
  refine hg9 ?_
  clear hg9 gl9
  refine meets_fn (dep := 19) (un := 97) (binds := [("one", _), ("other", _)]) hG hW ho rfl hcd (fun s st => BindsTo.of_eq rfl) (locs rfl) (by decide) rfl rfl rfl ?_
  intro A outer L h₀ s σ Q E Qb Eb B H hQ hX hP
  refine hide fun gl9 hg9 => ?_
  obtain ⟨i, t, j, u, rfl, rfl, Hq⟩ := H
  refine hg9 ?_
  clear hg9 gl9
  refine wpAny_execs_cons ?_
  refine wpAny_Return_some ?_
  refine wpAny_Compare1 ?_
  refine wpAny_BinOp ?_
  refine nameX_L B.fr rfl ?_
  refine wpAny_Constant_int ?_
  refine mod_int (by decide) ?_
  refine wpAny_BinOp ?_
  refine nameX_L B.fr rfl ?_
  refine wpAny_Constant_int ?_
  refine mod_int (by decide) ?_
  refine lt_int ?_
  exact hQ (.ret _) _ _ _ _ Hq rfl B.fr.keep B.run B.kp

theorem bd_newList {vs : List Value} {Q : Value → Shared → Prop} (B : Bd G c orel A outer env L h₀ dep un m σ s.heap)
    (h : ∀ t h', Bd G c orel A outer env L h₀ dep un m σ h' → h'.PlainList t vs.toArray → s.heap.get? t = none → Q (.ref t) { s with heap := h' }) (hsz : vs.length ≤ sizeLine := by size_fits) : wpAny (model prog w) A (newList vs) Q E s := by
  refine wpAny_newObj_type (h _ _ (B.push _) ⟨_, Heap.get?_push_size _ rfl⟩ (Heap.get?_none_of_le (Nat.le_refl _))) ?_
  show vs.toArray.size ≤ sizeLine
  rw [List.size_toArray]; exact hsz

theorem readsAll_bools {h : Heap} : ∀ bs : List Bool, ReadsAll h (bs.map Value.bool) (bs.map PyData.bool) []
  | [] => .nil
  | b :: r => by
    have := ReadsAll.cons (Reads.bool (h := h) b) (readsAll_bools r)
    simpa using this
theorem reads_bools {h : Heap} {a : Addr} {bs : List Bool} (hl : h.PlainList a (bs.map Value.bool).toArray) : Reads h (.ref a) (.list (bs.map PyData.bool)) [a] := by
  obtain ⟨n, e⟩ := hl
  exact Reads.list e rfl rfl (by simpa using readsAll_bools bs)
theorem shaped_bools (bs : List Bool) : shaped (.list (bs.map PyData.bool)) = true := by
  have h0 : ∀ l : List Bool, PyData.canLayAll0 (l.map PyData.bool) = true := by
    intro l
    induction l with
    | nil => simp [PyData.canLayAll0]
    | cons b r ih => simp [PyData.canLayAll0, PyData.canLay0, ih]
  have h1 : ∀ l : List Bool, PyData.depthAll (l.map PyData.bool) ≤ 1 := by
    intro l
    induction l with
    | nil => simp [PyData.depthAll]
    | cons b r ih => simp only [List.map_cons, PyData.depthAll, PyData.depth]; lia
  have h2 : PyData.depth (.list (bs.map PyData.bool)) ≤ 64 := by have := h1 bs; simp only [PyData.depth]; lia
  show (PyData.canLay0 (.list (bs.map PyData.bool)) && decide (PyData.depth (.list (bs.map PyData.bool)) ≤ 64)) = true
  rw [Bool.and_eq_true]
  exact ⟨by simp only [PyData.canLay0]; exact h0 bs, decide_eq_true h2⟩

set_option maxHeartbeats 4000000 in
theorem row_meets (hG : G.NoLimit) (hW : ∀ a ∈ c.W, G.get? a = none) (nd : c.W.Nodup) {fl cO : Addr} {cl : List (Str × Addr)} (Fn : FnIs G fl (innS 7 1) "by_row" "_law_told.<locals>.by_row" cl)
    (h1 : cl.lookup ("left" : Str) = some cO) (k1 : G.IsCell cO (some (.ref c.aO))) (a b : Value) :
    Meets prog w G c oRow 31 20 100 (.ref fl) [a, b] relB (tlRow a b) := by
  refine hide fun gl9 hg9 => ?_
  obtain ⟨c', doc, pm, ctv, ho, hcd⟩ := Fn.at_
  refine hg9 ?_
  clear hg9 gl9
  refine hide fun gl9 hg9 => ?_
  obtain ⟨n1, n2, n3, n4, n5, n6, n7, n8, n9, n10⟩ := Pl.ne nd
  refine hg9 ?_
  clear hg9 gl9
  refine meets_fn (dep := 19) (un := 97) (binds := [("one", _), ("other", _)]) hG hW ho rfl hcd (fun s st => BindsTo.of_eq rfl) (locs rfl) (by decide) rfl rfl rfl ?_
  intro A outer L h₀ s σ Q E Qb Eb B H hQ hX hP
  refine wpAny_execs_cons ?_
  refine wpAny_Return_some ?_
  refine PyProof.Rows.IfExp_ ?_
  refine wpAny_isTrue_Compare1 ?_
  refine free_G B.fr h1 k1 ?_
  refine List_ ?_
  refine args_nil ?_
  refine bd_newList B (fun t1 _ B ht hnt => ?_)
  refine hide fun gl9 hg9 => ?_
  obtain ⟨vo, o1, o2⟩ := B.run.o
  refine hg9 ?_
  clear hg9 gl9
  have o2' : vo = σ.O.map .bool := o2
  subst o2'
  refine ne_dataH_same (reads_bools o1) (reads_bools (bs := []) ht) (shaped_bools _) (shaped_bools []) (by have := B.un; lia) (by cases σ.O <;> simp [noMix, noMixAll]) ?_
  refine wpAny_truthy_bool ?_
  cases hO : σ.O with
  | nil =>
    simp only [hO, List.map_nil, PySem.Spec.same, PySem.Spec.sameAll, Bool.not_true, Bool.false_eq_true, ↓reduceIte]
    refine PyProof.Rows.Constant_bool ?_
    unfold tlRow at H
    rw [hO] at H
    exact hQ (.ret _) _ _ _ _ H rfl B.fr.keep B.run B.kp
  | cons b r =>
    rw [hO] at o1
    simp only [List.map_cons, List.map_nil, PySem.Spec.same, PySem.Spec.sameAll, Bool.not_false, ↓reduceIte]
    refine MethodCall_ ?_
    refine free_G B.fr h1 k1 ?_
    refine meth_plain o1 PySem.F.slot_list_pop PySem.F.type_list_pop ?_
    refine callWith_method1 ?_
    refine args_cons ?_
    refine wpAny_Constant_int ?_
    refine args_nil ?_
    refine popAt_plain (p := []) (q := r.map .bool) (y := .bool b) o1 ?_ rfl (fun h' p hs => ?_)
    · have hb := B.run.bO
      rw [hO, List.length_cons] at hb
      rw [List.length_nil, List.length_map, sizeLine_eq]
      lia
    · have B' := B.setList (σ' := { σ with O := r }) hW (a := c.aO) (by simp [Pl.W]) hs (by
        obtain ⟨p', ⟨vs, s1, s2⟩, hh, kk, _, a, b, cc, d, e, f, g⟩ := B.run
        exact ⟨plain_same p' hs n4, ⟨vs, plain_same s1 hs n7, s2⟩, plain_same hh hs n9, plain_same kk hs n10, ⟨_, p, rfl⟩, a, b, cc, d, e, f, by rw [hO, List.length_cons] at g; exact Nat.le_of_succ_le g⟩)
      unfold tlRow at H
      rw [hO] at H
      exact hQ (.ret _) _ _ _ _ H rfl B'.fr.keep B'.run B'.kp
end
end Mine
end

section
open PySem PySem.W PySem.Calls PyProof.Rows PySem.Spec PySem.SeqAt PyProof.V
set_option Elab.async false
set_option maxRecDepth 100000
namespace Mine

section
variable {prog : Program} {w : World} {G : Heap} {c : Pl} {orel : ORel} {C : Addr} {A : Around} {outer : List Env} {env : Env} {L : Addr} {h₀ h h' : Heap} {dep un : Nat} {m m' : Str → Option Value} {σ σ' : Sg} {E : Value → Shared → Prop} {s : Shared}

set_option maxHeartbeats 4000000 in
theorem chance_meets (X : (KF w).In G) (T : ∃ p loose mg mb, TopRead p loose mg mb G) (hW : ∀ a ∈ c.W, G.get? a = none) (nd : c.W.Nodup) {tb : List Bool} {fl cO cT aT : Addr} {cl : List (Str × Addr)} (Fn : FnIs G fl (innS 5 4) "by_chance" "_law_less.<locals>.by_chance" cl)
    (h1 : cl.lookup ("step" : Str) = some cO) (k1 : G.IsCell cO (some (.ref c.aO))) (h2 : cl.lookup ("told" : Str) = some cT) (k2 : G.IsCell cT (some (.ref aT))) (k3 : G.PlainList aT (tb.map Value.bool).toArray) (tpos : 0 < tb.length) (tlen : tb.length ≤ 1000) (a b : Value) :
    Meets prog w G c (oChance tb) 31 20 100 (.ref fl) [a, b] relB (tlChance a b) := by
  refine hide fun gl9 hg9 => ?_
  obtain ⟨p, loose, mg, mb, T⟩ := T
  refine hg9 ?_
  clear hg9 gl9
  refine hide fun gl9 hg9 => ?_
  obtain ⟨c', doc, pm, ctv, ho, hcd⟩ := Fn.at_
  refine hg9 ?_
  clear hg9 gl9
  refine hide fun gl9 hg9 => ?_
  obtain ⟨n1, n2, n3, n4, n5, n6, n7, n8, n9, n10⟩ := Pl.ne nd
  refine hg9 ?_
  clear hg9 gl9
  refine meets_fn (dep := 19) (un := 97) (binds := [("one", _), ("other", _)]) T.nolimit hW ho rfl hcd (fun s st => BindsTo.of_eq rfl) (locs rfl) (by decide) rfl rfl rfl ?_
  intro A outer L h₀ s σ Q E Qb Eb B H hQ hX hP
  refine hide fun gl9 hg9 => ?_
  obtain ⟨vo, o1, k, t, ov, hO⟩ := B.run.o
  refine hg9 ?_
  clear hg9 gl9
  subst ov
  refine wpAny_execs_cons ?_
  refine wpAny_Assign_Subscript ?_
  refine wpAny_BinOp ?_
  refine Subscript_ ?_
  refine free_G B.fr h1 k1 ?_
  refine wpAny_Constant_int ?_
  refine item_listL o1.isList (by decide) (by decide) rfl ?_
  refine wpAny_Constant_int ?_
  refine PyProof.Rows.add_int ?_
  refine free_G B.fr h1 k1 ?_
  refine wpAny_Constant_int ?_
  refine set_plain' o1 (by decide) (Nat.zero_lt_succ _) (by decide) (fun h' p hs => ?_)
  have ek : ((k : Int) + 1) = ((k + 1 : Nat) : Int) := by lia
  rw [ek] at p
  by_cases h80 : 80 ≤ k
  · -- the order gives up
    have hnil : σ.O = [] := by rw [hO]; exact future_nil tb h80
    unfold tlChance at H
    rw [hnil] at H
    have B' := B.setList (σ' := σ) hW (a := c.aO) (by simp [Pl.W]) hs (by
      obtain ⟨p', ⟨vs, s1, s2⟩, hh, kk, _, a, b, cc, d, e, f, g⟩ := B.run
      exact ⟨plain_same p' hs n4, ⟨vs, plain_same s1 hs n7, s2⟩, plain_same hh hs n9, plain_same kk hs n10, ⟨_, p, k + 1, _, rfl, by rw [hnil, future_nil tb (by lia)]⟩, a, b, cc, d, e, f, g⟩)
    refine wpAny_execs_cons ?_
    refine wpAny_If ?_
    refine wpAny_isTrue_Compare1 ?_
    refine Subscript_ ?_
    refine free_G B'.fr h1 k1 ?_
    refine wpAny_Constant_int ?_
    refine item_listL p.isList (by decide) (by decide) rfl ?_
    refine wpAny_Constant_int ?_
    refine gt_int ?_
    refine wpAny_truthy_bool ?_
    have hgt : (80 : Int) < ((k + 1 : Nat) : Int) := by lia
    simp only [hgt, decide_true, ↓reduceIte]
    refine wpAny_execs_cons ?_
    refine raise_bad (i := 0) B'.fr X T B'.hd (by have := B'.dp; lia) ⟨by lia, by lia⟩ (fun E' Q' k => wpAny_Constant_int (k _ _)) (fun e t1 dx h' tk st hn he => ?_)
    exact hX e _ h' tk H (fresh_flies B' st hn he rfl rfl rfl rfl)
  · have h80' : k < 80 := by lia
    have hcons : σ.O = tb.getD ((k + 1) * 7 % tb.length) false :: future tb (k + 1) := by rw [hO]; exact future_cons tb h80'
    unfold tlChance at H
    rw [hcons] at H
    have B' := B.setList (σ' := { σ with O := future tb (k + 1) }) hW (a := c.aO) (by simp [Pl.W]) hs (by
      obtain ⟨p', ⟨vs, s1, s2⟩, hh, kk, _, a, b, cc, d, e, f, g⟩ := B.run
      refine ⟨plain_same p' hs n4, ⟨vs, plain_same s1 hs n7, s2⟩, plain_same hh hs n9, plain_same kk hs n10, ⟨_, p, k + 1, _, rfl, rfl⟩, a, b, cc, d, e, f, ?_⟩
      rw [hcons, List.length_cons] at g; exact Nat.le_of_succ_le g)
    refine wpAny_execs_cons ?_
    refine wpAny_If ?_
    refine wpAny_isTrue_Compare1 ?_
    refine Subscript_ ?_
    refine free_G B'.fr h1 k1 ?_
    refine wpAny_Constant_int ?_
    refine item_listL p.isList (by decide) (by decide) rfl ?_
    refine wpAny_Constant_int ?_
    refine gt_int ?_
    refine wpAny_truthy_bool ?_
    have hgt : ¬ (80 : Int) < ((k + 1 : Nat) : Int) := by lia
    simp only [hgt, decide_false, Bool.false_eq_true, ↓reduceIte]
    refine wpAny_execs_nil ?_
    refine wpAny_execs_cons ?_
    refine wpAny_Return_some ?_
    refine Subscript_ ?_
    refine free_G B'.fr h2 k2 ?_
    refine wpAny_BinOp ?_
    refine wpAny_BinOp ?_
    refine Subscript_ ?_
    refine free_G B'.fr h1 k1 ?_
    refine wpAny_Constant_int ?_
    refine item_listL p.isList (by decide) (by decide) rfl ?_
    refine wpAny_Constant_int ?_
    refine PyProof.Rows.mul_int ?_ (PySem.IntMulOk.of_left (PySem.intBits_le_64 (by lia) (by lia)))
    refine Call_ ?_
    refine nameX_B B'.fr X T (by kernel_rfl) PySem.boot_len (by decide) ?_
    refine PyProof.Rows.callWith_builtin1 ?_
    refine args_cons ?_
    refine free_G B'.fr h2 k2 ?_
    refine args_nil ?_
    have hT := k3.at (h' := h') (fun o e => B'.fr.keep _ _ e)
    refine call_len_list hT.isList (by rw [List.size_toArray, List.length_map]; lia) ?_
    refine mod_int (by rw [List.size_toArray, List.length_map]; lia) ?_
    have hidx : (((k + 1 : Nat) : Int) * 7).fmod ((tb.map Value.bool).toArray.size : Int) = (((k + 1) * 7 % tb.length : Nat) : Int) := by
      rw [List.size_toArray, List.length_map, Int.fmod_eq_emod_of_nonneg _ (by lia), Int.natCast_emod, Int.natCast_mul]
      rfl
    rw [hidx]
    have hlt : (k + 1) * 7 % tb.length < tb.length := Nat.mod_lt _ tpos
    refine item_listL hT.isList (by lia) (by lia) (x := .bool (tb.getD ((k + 1) * 7 % tb.length) false)) ?_ ?_
    · rw [Int.toNat_natCast, List.getElem?_map, List.getElem?_eq_getElem hlt, List.getD_eq_getElem?_getD, List.getElem?_eq_getElem hlt]
      rfl
    · exact hQ (.ret _) _ _ _ _ H rfl B'.fr.keep B'.run B'.kp
end
end Mine
end

section
open PySem PySem.W PySem.Calls PyProof.Rows PySem.Spec PySem.SeqAt PyProof.V
set_option Elab.async false
set_option maxRecDepth 100000
namespace Mine

/-- what stands may turn in frames' slots alone -/
def KpL (fs : List Addr) (W : List Addr) (h h' : Heap) : Prop :=
  (∀ b o, b ∉ W → b ∉ fs → h.get? b = some o → h'.get? b = some o) ∧ ∀ b o, b ∉ W → h.get? b = some o → (∀ vs, o.data ≠ .fields vs) → ∃ sl, h'.get? b = some { o with slots := sl }
theorem KpL.of_kp {fs W : List Addr} {h h' : Heap} (k : Kp W h h') : KpL fs W h h' := ⟨fun b o n _ e => k b o n e, fun b o n e _ => ⟨o.slots, k b o n e⟩⟩
theorem KpL.trans {fs W : List Addr} {h h' h'' : Heap} (x : KpL fs W h h') (y : KpL fs W h' h'') : KpL fs W h h'' :=
  ⟨fun b o n f e => y.1 b o n f (x.1 b o n f e), fun b o n e hn => let ⟨_, e1⟩ := x.2 b o n e hn; let ⟨sl, e2⟩ := y.2 b _ n e1 hn; ⟨sl, e2⟩⟩
theorem KpL.ns {fs W : List Addr} {h h' : Heap} {L : Addr} {m : Str → Option Value} (x : KpL fs W h h') (hL : L ∉ W) (hn : h.Ns L m) : h'.Ns L m := by
  obtain ⟨o, es, ep, e, hd, r⟩ := hn
  obtain ⟨sl, e2⟩ := x.2 L o hL e (fun vs q => by rw [hd] at q; cases q)
  exact ⟨_, es, ep, e2, hd, r⟩
theorem FFr.kpl {G : Heap} {W fs : List Addr} {h h' : Heap} (k : KpL fs W h h') : ∀ {l : List Env}, FFr G W h l → FFr G W h' l
  | [], _ => trivial
  | _ :: _, ⟨a, ⟨L, m, b1, b2, b3, b4⟩, r⟩ => ⟨a, ⟨L, m, b1, b2, b3, k.ns b3 b4⟩, FFr.kpl k r⟩

/-- the state within a body of the law's own; h₀: as the call began -/
structure Bl (G : Heap) (W : List Addr) (A : Around) (outer : List Env) (env : Env) (L : Addr) (cells : List (Str × Addr)) (h₀ : Heap) (dep un : Nat) (m cm : Str → Option Value) (h : Heap) : Prop where
  fr : Fr G L h m
  cl : Cl L cells h cm
  kp : KpL (outer.filterMap (·.frame)) W h₀ h
  lw : L ∉ W
  cw : ∀ n c, (n, c) ∈ cells → c ∉ W
  new : ∀ b, L ≤ b → h₀.get? b = none
  stack : A.frames = some (env :: outer)
  hd : A.handled = none
  dp : A.depth + dep < recursionLimit
  un : A.units + un < cLine
  ef : env.frame = some L
  el : env.locals = L
  ec : env.cells = cells
  ek : env.scope.kind = .function
  gl : ∀ b, L ≤ b → G.get? b = none
  ff : FFr G W h outer
  fl : ∀ b ∈ outer.filterMap (·.frame), b < L
  f0 : ∀ b ∈ outer.filterMap (·.frame), ∃ n, h₀.Ns b n
  sz0 : h₀.objs.size ≤ L

section
variable {prog : Program} {w : World} {G : Heap} {W : List Addr} {A : Around} {outer : List Env} {env : Env} {L : Addr} {cells : List (Str × Addr)} {h₀ h h' : Heap} {dep un : Nat} {m m' cm : Str → Option Value} {E : Value → Shared → Prop} {s : Shared}

theorem Bl.ok (B : Bl G W A outer env L cells h₀ dep un m cm h) : Ok G W A (env :: outer) h dep un :=
  ⟨B.stack, B.hd, B.dp, B.un, ⟨by rw [B.ek]; decide, ⟨L, m, B.ef, B.gl L (Nat.le_refl _), B.lw, B.fr.ns⟩, B.ff⟩, Nat.le_of_lt (Nat.lt_of_le_of_lt B.fr.above B.fr.ns.lt)⟩

/-- all but the tables stays -/
theorem Bl.kept (B : Bl G W A outer env L cells h₀ dep un m cm h) (k : Kp W h h') (hG : ∀ b ∈ W, G.get? b = none) : Bl G W A outer env L cells h₀ dep un m cm h' :=
  { B with
    fr := ⟨k.ns B.lw B.fr.ns, fun b o e => k b o (fun q => by rw [hG b q] at e; cases e) (B.fr.keep b o e), B.fr.above⟩
    cl := ⟨fun n c e => let ⟨o, ho, hd⟩ := B.cl.cell n c e; ⟨o, k c o (B.cw n c (mem_of_lookup e)) ho, hd⟩, B.cl.apart, B.cl.above⟩
    kp := B.kp.trans (KpL.of_kp k)
    ff := B.ff.kp k }
theorem Bl.grow (B : Bl G W A outer env L cells h₀ dep un m cm h) (k : ∀ b o, h.get? b = some o → h'.get? b = some o) : Bl G W A outer env L cells h₀ dep un m cm h' :=
  { B with
    fr := ⟨B.fr.ns.keeps k, fun b o e => k b o (B.fr.keep b o e), B.fr.above⟩
    cl := B.cl.keeps k
    kp := B.kp.trans (KpL.of_kp (Kp.of_keeps k))
    ff := B.ff.kp (Kp.of_keeps k) }

theorem FFr.sameL {W : List Addr} (hs : Heap.SameBut L h h') (hl : ∀ b ∈ outer.filterMap (·.frame), b < L) (x : FFr G W h outer) : FFr G W h' outer :=
  FFr.sameBut hs x fun q => Nat.lt_irrefl _ (hl L q)

theorem bl_store {M : Model} {A' : Around} {x : Str} {v : Value} {Q : Unit → Shared → Prop} (B : Bl G W A outer env L cells h₀ dep un m cm s.heap)
    (h : ∀ h', Bl G W A outer env L cells h₀ dep un (fun y => if y = x then some v else m y) cm h' → Kp [L] s.heap h' → Q () { s with heap := h', toks := s.toks + 1 })
    (hx : env.kindOf x = some .local := by rfl) : wpAny M A' (storeName env x v) Q E s := by
  have hn := B.fr.ns
  rw [← B.el] at hn
  refine wpAny_storeName_local hx hn (fun h' hn' hs => ?_) (by rw [B.ek]; rfl)
  rw [B.el] at hn' hs
  have k : ∀ b o, b ≠ L → s.heap.get? b = some o → h'.get? b = some o := fun b o hb e => (hs.2 b hb).trans e
  refine h h' { B with fr := B.fr.set hn' hs, cl := B.cl.sameBut hs (Nat.le_refl _), kp := ?_, ff := B.ff.sameL hs B.fl } fun b o hb e => k b o (fun q => hb (q ▸ List.mem_singleton.mpr rfl)) e
  refine ⟨fun b o hb hf e => k b o (fun q => ?_) (B.kp.1 b o hb hf e), fun b o hb e hn => ?_⟩
  · rw [q, B.new L (Nat.le_refl _)] at e; cases e
  · obtain ⟨sl, e2⟩ := B.kp.2 b o hb e hn
    exact ⟨sl, k b _ (fun q => by rw [q, B.new L (Nat.le_refl _)] at e; cases e) e2⟩

theorem bl_storeC {x : Str} {v : Value} {c : Addr} {Q : Unit → Shared → Prop} (B : Bl G W A outer env L cells h₀ dep un m cm s.heap) (hc : cells.lookup x = some c)
    (h : ∀ h', Bl G W A outer env L cells h₀ dep un m (fun y => if y = x then some v else cm y) h' → Kp [c] s.heap h' → Q () { s with heap := h' })
    (hx : env.kindOf x = some .cell := by rfl) : wpAny M A (storeName env x v) Q E s := by
  have hLc := B.cl.above x c (mem_of_lookup hc)
  refine wpAny_storeName_cell B.ek hx (by rw [B.ec]; exact hc) (B.cl.cell x c hc) fun h' hv hs => ?_
  have k : ∀ b o, b ≠ c → s.heap.get? b = some o → h'.get? b = some o := fun b o hb e => (hs.2 b hb).trans e
  refine h h' { B with
    fr := ⟨B.fr.ns.sameBut hs (Nat.ne_of_lt hLc), fun b o e => k b o (fun q => ?_) (B.fr.keep b o e), B.fr.above⟩
    cl := ⟨fun n c' e => ?_, B.cl.apart, B.cl.above⟩
    kp := ?_
    ff := FFr.sameBut hs B.ff fun q => Nat.lt_irrefl _ (Nat.lt_trans (B.fl c q) hLc) } fun b o hb e => k b o (fun q => hb (q ▸ List.mem_singleton.mpr rfl)) e
  · rw [q, B.gl c (Nat.le_of_lt hLc)] at e; cases e
  · by_cases hn : n = x
    · subst hn; rw [hc] at e; cases e; simpa using hv
    · have hcc : c' ≠ c := fun q => hn (name_of_addr B.cl.apart (mem_of_lookup e) (q ▸ mem_of_lookup hc))
      simpa [hn] using (B.cl.cell n c' e).sameBut hs hcc
  · refine ⟨fun b o hb hf e => k b o (fun q => ?_) (B.kp.1 b o hb hf e), fun b o hb e hn => ?_⟩
    · rw [q, B.new c (Nat.le_of_lt hLc)] at e; cases e
    · obtain ⟨sl, e2⟩ := B.kp.2 b o hb e hn
      exact ⟨sl, k b _ (fun q => by rw [q, B.new c (Nat.le_of_lt hLc)] at e; cases e) e2⟩

theorem bl_newTuple {vs : List Value} {Q : Value → Shared → Prop} (B : Bl G W A outer env L cells h₀ dep un m cm s.heap)
    (h : ∀ t h', Bl G W A outer env L cells h₀ dep un m cm h' → IsTup h' t vs.toArray → s.heap.StaysIn h' → L < t → Q (.ref t) { s with heap := h' }) (hsz : vs.length ≤ sizeLine := by size_fits) : wpAny (model prog w) A (newTuple vs) Q E s := by
  refine wpAny_newObj_type (h _ _ (B.grow fun _ _ e => Heap.get?_push_of_some _ e) ⟨_, Heap.get?_push_size _ rfl, rfl, _, rfl⟩ (fun _ _ e => Heap.get?_push_of_some _ e) B.fr.ns.lt) ?_
  show vs.toArray.size ≤ sizeLine
  rw [List.size_toArray]; exact hsz
theorem bl_newList {vs : List Value} {Q : Value → Shared → Prop} (B : Bl G W A outer env L cells h₀ dep un m cm s.heap)
    (h : ∀ t h', Bl G W A outer env L cells h₀ dep un m cm h' → h'.PlainList t vs.toArray → s.heap.StaysIn h' → L < t → s.heap.get? t = none → Q (.ref t) { s with heap := h' }) (hsz : vs.length ≤ sizeLine := by size_fits) : wpAny (model prog w) A (newList vs) Q E s := by
  refine wpAny_newObj_type (h _ _ (B.grow fun _ _ e => Heap.get?_push_of_some _ e) ⟨_, Heap.get?_push_size _ rfl⟩ (fun _ _ e => Heap.get?_push_of_some _ e) B.fr.ns.lt (Heap.get?_none_of_le (Nat.le_refl _))) ?_
  show vs.toArray.size ≤ sizeLine
  rw [List.size_toArray]; exact hsz

theorem cell_L {M : Model} {cn : Str} {cs : Scope} {a : Addr} {ccd : Value} {x : Str} {pos : Pos} {v : Value} {ca : Addr} {Q : Value → Shared → Prop} (B : Bl G W A outer (envX cn cs L a ccd cells) L cells h₀ dep un m cm s.heap) (hc : cells.lookup x = some ca) (hv : cm x = some v) (h : Q v s)
    (hx : (envX cn cs L a ccd cells).kindOf x = some .cell := by rfl) (hb : (x == ("__debug__" : Str)) = false := by decide) :
    wpAny M A (eval (.Name x pos) (envX cn cs L a ccd cells)) Q E s := wpAny_Name (wpAny_loadName_cell B.ek hx hc (hv ▸ B.cl.cell x ca hc) h) hb

/-- the contract of the law's own defs: nothing leaves them but a value -/
def MeetsL (prog : Program) (w : World) (G : Heap) (W : List Addr) (dep un : Nat) (f : Value) (args : List Value) (P : List Addr → Heap → Prop) (Qr : List Addr → Heap → Value → Heap → Prop) : Prop :=
  ∀ (A : Around) (outer : List Env) (s : Shared) (R : Result → Shared → Prop), Ok G W A outer s.heap dep un → G.StaysIn s.heap → P (outer.filterMap (·.frame)) s.heap →
    (∀ v h' tk, G.StaysIn h' → KpL (outer.filterMap (·.frame)) W s.heap h' → Qr (outer.filterMap (·.frame)) s.heap v h' → R (.ok (.ret v)) { s with heap := h', toks := tk }) →
    codeAny (model prog w) A (.call f ⟨args, []⟩) R s

theorem bl_call {f : Value} {args : List Value} {P : List Addr → Heap → Prop} {Qr : List Addr → Heap → Value → Heap → Prop} {dep' un' : Nat} {Q : Value → Shared → Prop} (Mt : MeetsL prog w G W dep' un' f args P Qr)
    (B : Bl G W A outer env L cells h₀ dep un m cm s.heap) (hd : dep' ≤ dep) (hu : un' ≤ un) (hP : P (L :: outer.filterMap (·.frame)) s.heap)
    (h : ∀ v h' tk, Bl G W A outer env L cells h₀ dep un m cm h' → Qr (L :: outer.filterMap (·.frame)) s.heap v h' → KpL (L :: outer.filterMap (·.frame)) W s.heap h' → Q v { s with heap := h', toks := tk }) :
    wpAny (model prog w) A (call f args) Q E s := by
  have ef : (env :: outer).filterMap (·.frame) = L :: outer.filterMap (·.frame) := by rw [List.filterMap_cons, B.ef]
  refine wpAny_call (Mt A (env :: outer) s _ (B.ok.le hd hu) B.fr.keep (ef ▸ hP) fun v h' tk st k q => ?_)
  rw [ef] at k q
  refine h v h' tk { B with fr := ⟨k.ns B.lw B.fr.ns, st, B.fr.above⟩, cl := ⟨fun n c e => ?_, B.cl.apart, B.cl.above⟩, kp := ?_, ff := B.ff.kpl k } q k
  · obtain ⟨o, ho, hd⟩ := B.cl.cell n c e
    have hLc := B.cl.above n c (mem_of_lookup e)
    exact ⟨o, k.1 c o (B.cw n c (mem_of_lookup e)) (fun q => by
      rcases List.mem_cons.mp q with q | q
      · exact Nat.lt_irrefl _ (q ▸ hLc)
      · exact Nat.lt_irrefl _ (Nat.lt_trans (B.fl c q) hLc)) ho, hd⟩
  · refine ⟨fun b o hb hf e => k.1 b o hb (fun q => ?_) (B.kp.1 b o hb hf e), fun b o hb e hn => ?_⟩
    · rcases List.mem_cons.mp q with q | q
      · rw [q, B.new L (Nat.le_refl _)] at e; cases e
      · exact hf q
    · obtain ⟨sl, e2⟩ := B.kp.2 b o hb e hn
      obtain ⟨sl', e3⟩ := k.2 b _ hb e2 hn
      exact ⟨sl', e3⟩
end
end Mine
end

section
open PySem PySem.W PySem.Calls PyProof.Rows PySem.Spec PySem.SeqAt PyProof.V
set_option Elab.async false
set_option maxRecDepth 100000
namespace Mine

section
variable {prog : Program} {w : World} {G : Heap} {W : List Addr} {A : Around} {outer : List Env} {env : Env} {L : Addr} {cells : List (Str × Addr)} {h₀ h h' : Heap} {dep un : Nat} {m m' cm : Str → Option Value} {E : Value → Shared → Prop} {s : Shared}

theorem FFr.below {W : List Addr} : ∀ {l : List Env}, FFr G W h l → ∀ b ∈ l.filterMap (·.frame), b < h.objs.size := fun x b hb => by
  obtain ⟨_, _, m, hn⟩ := FFr.off x hb
  exact hn.lt

/-- what a body of the law's own is asked -/
abbrev BodyL (prog : Program) (w : World) (G : Heap) (W : List Addr) (dep un : Nat) (P : List Addr → Heap → Prop) (Qr : List Addr → Heap → Value → Heap → Prop) (body : List Stmt) (mkEnv : Addr → Env) (cellsOf : Addr → List (Str × Addr)) (m cm : Str → Option Value) : Prop :=
  ∀ (A : Around) (outer : List Env) (L : Addr) (h₀ : Heap) (s : Shared) (Qb : Flow → Shared → Prop) (Eb : Value → Shared → Prop),
    Bl G W A outer (mkEnv L) L (cellsOf L) h₀ dep un m cm s.heap → P (outer.filterMap (·.frame)) h₀ → h₀.StaysIn s.heap →
    (∀ fl h' tk, G.StaysIn h' → KpL (outer.filterMap (·.frame)) W h₀ h' → Qr (outer.filterMap (·.frame)) h₀ (flowV fl) h' → Qb fl { s with heap := h', toks := tk }) →
    PassesOwn (model prog w) A (mkEnv L) Eb →
    wpAny (model prog w) A (execs body (mkEnv L)) Qb Eb s

theorem meetsL_fn {P : List Addr → Heap → Prop} {Qr : List Addr → Heap → Value → Heap → Prop} {f : Addr} {fo : Obj} {args : List Value} {name qual : Str} {params : Arguments} {body : List Stmt} {scope : Scope} {dV kV doc pm cdv ct : Value} {an : Option Addr} {binds : List (Str × Value)}
    (hG : G.NoLimit) (hW : ∀ fs h, P fs h → G.objs.size ≤ h.objs.size → ∀ b ∈ W, b < h.objs.size) (ho : G.get? f = some fo) (hdat : fo.data = .func (fnX name qual params body scope [] dV kV doc pm an cdv ct)) (hcd : G.CodeRec cdv qual)
    (hbind : bindArgs (fnX name qual params body scope [] dV kV doc pm an cdv ct) ⟨args, []⟩ = pure binds) (hloc : ∀ y ∈ binds, scope.names.lookup y.1 = some .local)
    (hcell : ∀ x ∈ scope.names, x.2 ≠ .cell) (hco : scope.isCoroutine = false) (hgen : scope.isGenerator = false) (hk : scope.kind = .function)
    (bd : BodyL prog w G W dep un P Qr body (fun L => envX qual scope L f cdv []) (fun _ => []) (fun y => binds.reverse.lookup y) (fun _ => none)) :
    MeetsL prog w G W (dep + 1) (un + 3) (.ref f) args P Qr := by
  intro A outer s R ok st hP hR
  refine codeAny_call_def (fd := fnX name qual params body scope [] dV kV doc pm an cdv ct) (body := body) (binds := binds) (Nat.lt_of_le_of_lt (Nat.le_add_right _ _) ok.dp) (st _ _ ho) hdat (hG.keeps st) (hcd.keeps st) rfl (BindsTo.of_eq hbind) hcell hloc (fun h₁ hns hk₁ => ?_) hco hgen hk
  refine bd (A.deeper (envX qual scope s.heap.objs.size f cdv [])) outer s.heap.objs.size s.heap { s with heap := h₁, toks := s.toks + binds.length } _ _ ?_ hP hk₁ (fun fl h' tk g k q => ?_) PassesOwn.leaving
  · refine ⟨⟨hns, fun b o e => hk₁ b o (st b o e), ok.sz⟩, ⟨fun n c e => (nomatch e), List.Pairwise.nil, fun n c e => (nomatch e)⟩, KpL.of_kp (Kp.of_keeps hk₁), fun q => ?_, fun n c e => (nomatch e), fun b hb => Heap.get?_none_of_le hb, Around.frames_deeper ok.fr, ok.hd, ?_, ?_, rfl, rfl, rfl, hk,
      fun b hb => Heap.get?_none_of_le (Nat.le_trans ok.sz hb), ok.ff.kp (Kp.of_keeps hk₁), fun b hb => FFr.below ok.ff b hb, fun b hb => (FFr.off ok.ff hb).2.2, Nat.le_refl _⟩
    · exact Nat.lt_irrefl _ (hW _ _ hP ok.sz _ q)
    · have := ok.dp; show A.depth + 1 + dep < _; lia
    · have := ok.un; show A.units + 3 + un < _; lia
  · cases fl <;> exact hR _ h' tk g k q

theorem meetsL_fnC {P : List Addr → Heap → Prop} {Qr : List Addr → Heap → Value → Heap → Prop} {f : Addr} {fo : Obj} {args : List Value} {name qual : Str} {params : Arguments} {body : List Stmt} {scope : Scope} {dV kV doc pm cdv ct : Value} {an : Option Addr} {binds : List (Str × Value)}
    (hG : G.NoLimit) (hW : ∀ fs h, P fs h → G.objs.size ≤ h.objs.size → ∀ b ∈ W, b < h.objs.size) (ho : G.get? f = some fo) (hdat : fo.data = .func (fnX name qual params body scope [] dV kV doc pm an cdv ct)) (hcd : G.CodeRec cdv qual)
    (hbind : bindArgs (fnX name qual params body scope [] dV kV doc pm an cdv ct) ⟨args, []⟩ = pure binds)
    (hkind : ∀ n : Nat, ∀ x ∈ binds, scope.names.lookup x.1 = some .local ∨ (scope.names.lookup x.1 = some .cell ∧ ((cellsFrom n scope.names []).lookup x.1).isSome = true))
    (hco : scope.isCoroutine = false) (hgen : scope.isGenerator = false) (hk : scope.kind = .function)
    (m cm : Str → Option Value) (hm : bindL (fun x => scope.names.lookup x) binds (fun _ => none) = m) (hcm : bindC (fun x => scope.names.lookup x) binds (fun _ => none) = cm)
    (bd : BodyL prog w G W dep un P Qr body (fun L => envX qual scope L f cdv (cellsFrom (L + 1) scope.names [])) (fun L => cellsFrom (L + 1) scope.names []) m cm) :
    MeetsL prog w G W (dep + 1) (un + 3) (.ref f) args P Qr := by
  intro A outer s R ok st hP hR
  refine codeAny_call_cells (fd := fnX name qual params body scope [] dV kV doc pm an cdv ct) (body := body) (binds := binds) (Nat.lt_of_le_of_lt (Nat.le_add_right _ _) ok.dp) (st _ _ ho) hdat (hG.keeps st) (hcd.keeps st) rfl hbind rfl (hkind _) (fun s₁ x => ?_) hco hgen hk
  obtain ⟨h₁, tk₁, rfl, hk₁⟩ := x.done
  have hek : ∀ y, (callEnvC (fnX name qual params body scope [] dV kV doc pm an cdv ct) s.heap.objs.size f).kindOf y = scope.names.lookup y := fun y => rfl
  have hm' : bindL (callEnvC (fnX name qual params body scope [] dV kV doc pm an cdv ct) s.heap.objs.size f).kindOf binds (fun _ => none) = m := hm
  have hcm' : bindC (callEnvC (fnX name qual params body scope [] dV kV doc pm an cdv ct) s.heap.objs.size f).kindOf binds (fun _ => none) = cm := hcm
  rw [hm', hcm'] at x
  refine bd (A.deeper (envX qual scope s.heap.objs.size f cdv (cellsFrom (s.heap.objs.size + 1) scope.names []))) outer s.heap.objs.size s.heap { s with heap := h₁, toks := tk₁ } _ _ ?_ hP hk₁ (fun fl h' tk g k q => ?_) PassesOwn.leaving
  · refine ⟨⟨x.toInCall.ns, fun b o e => hk₁ b o (st b o e), ok.sz⟩, ⟨x.cell, x.apart, x.above⟩, KpL.of_kp (Kp.of_keeps hk₁), fun q => ?_, fun n c e q => ?_, fun b hb => Heap.get?_none_of_le hb, Around.frames_deeper ok.fr, ok.hd, ?_, ?_, rfl, rfl, rfl, hk,
      fun b hb => Heap.get?_none_of_le (Nat.le_trans ok.sz hb), ok.ff.kp (Kp.of_keeps hk₁), fun b hb => FFr.below ok.ff b hb, fun b hb => (FFr.off ok.ff hb).2.2, Nat.le_refl _⟩
    · exact Nat.lt_irrefl _ (hW _ _ hP ok.sz _ q)
    · exact Nat.lt_irrefl _ (Nat.lt_trans (hW _ _ hP ok.sz _ q) (x.above n c e))
    · have := ok.dp; show A.depth + 1 + dep < _; lia
    · have := ok.un; show A.units + 3 + un < _; lia
  · cases fl <;> exact hR _ h' tk g k q

end

abbrev Wt : List Addr := [106, 113, 120]

/-! the table of a def's inner codes -/
def TabQ (want : List (Pos × Str)) (P : Addr) (h : Heap) : Prop :=
  ∃ ps, h.get? P = some (tabObj ps) ∧ TriplesOk ps.toList ∧ ∀ q ∈ want, codeAmong q.1 ps.toList = none ∨ ∃ c', codeAmong q.1 ps.toList = some (.ref c') ∧ h.CodeRec (.ref c') q.2 ∧ c' ∉ Wt

theorem TabQ.empty {want : List (Pos × Str)} {P : Addr} {h : Heap} (e : h.get? P = some (tabObj #[])) : TabQ want P h := ⟨#[], e, trivial, fun _ _ => .inl rfl⟩

/-- all but V and the dicts stays -/
def KpD (V : List Addr) (h h' : Heap) : Prop := ∀ b o, b ∉ V → (∀ es n, o.data ≠ .dict es n) → h.get? b = some o → h'.get? b = some o
theorem KpD.refl {V : List Addr} {h : Heap} : KpD V h h := fun _ _ _ _ e => e
theorem KpD.trans {V : List Addr} {h h' h'' : Heap} (x : KpD V h h') (y : KpD V h' h'') : KpD V h h'' := fun b o n d e => y b o n d (x b o n d e)
theorem KpD.mono {V V' : List Addr} {h h' : Heap} (x : KpD V h h') (k : ∀ b ∈ V, b ∈ V') : KpD V' h h' := fun b o n d e => x b o (fun q => n (k b q)) d e
theorem KpD.of {V : List Addr} {h h' : Heap} (k : ∀ b o, h.get? b = some o → h'.get? b = some o) : KpD V h h' := fun b o _ _ e => k b o e
theorem KpD.of_kp {V : List Addr} {h h' : Heap} (k : Kp V h h') : KpD V h h' := fun b o n _ e => k b o n e
theorem KpD.of_kpl {V fs : List Addr} {h h' : Heap} (k : KpL fs V h h') (hf : ∀ b ∈ fs, ∃ m, h.Ns b m) : KpD V h h' := fun b o n d e => k.1 b o n (fun q => by
  obtain ⟨m, o', es, ep, e', hd, _⟩ := hf b q
  rw [e] at e'; cases e'
  exact d _ _ hd) e
theorem KpD.plain {V : List Addr} {h h' : Heap} {a : Addr} {its : Array Value} (k : KpD V h h') (ha : a ∉ V) (x : h.PlainList a its) : h'.PlainList a its := let ⟨n, e⟩ := x; ⟨n, k a _ ha (fun _ _ q => by cases q) e⟩
theorem KpD.tup {V : List Addr} {h h' : Heap} {a : Addr} {its : Array Value} (k : KpD V h h') (ha : a ∉ V) (x : IsTup h a its) : IsTup h' a its := let ⟨o, e, c, n, d⟩ := x; ⟨o, k a _ ha (fun _ _ q => by rw [d] at q; cases q) e, c, n, d⟩
theorem KpD.cell {V : List Addr} {h h' : Heap} {a : Addr} {v : Option Value} (k : KpD V h h') (ha : a ∉ V) (x : h.IsCell a v) : h'.IsCell a v := let ⟨o, e, d⟩ := x; ⟨o, k a _ ha (fun _ _ q => by rw [d] at q; cases q) e, d⟩
theorem KpD.code {V : List Addr} {h h' : Heap} {c' : Addr} {q : Str} (k : KpD V h h') (ha : c' ∉ V) (x : h.CodeRec (.ref c') q) : h'.CodeRec (.ref c') q := by
  obtain ⟨c₂, oc, vs, tk, e2, hoc, hd, hv⟩ := x
  cases e2
  exact ⟨_, oc, vs, tk, rfl, k _ _ ha (fun _ _ q => by rw [hd] at q; cases q) hoc, hd, hv⟩

theorem TabQ.kpd {want : List (Pos × Str)} {P : Addr} {V : List Addr} {h h' : Heap} (x : TabQ want P h) (k : KpD V h h') (hP : P ∉ V) (hV : ∀ b ∈ V, b ∈ Wt ∨ ∀ o vs, h.get? b = some o → o.data ≠ .fields vs) : TabQ want P h' := by
  obtain ⟨ps, e, t, r⟩ := x
  refine ⟨ps, k _ _ hP (fun _ _ q => by cases q) e, t, fun q hq => ?_⟩
  rcases r q hq with r | ⟨c', r1, r2, r3⟩
  · exact .inl r
  · refine .inr ⟨c', r1, k.code (fun q => ?_) r2, r3⟩
    obtain ⟨c₂, oc, vs, tk, e2, hoc, hd, hv⟩ := r2
    cases e2
    rcases hV _ q with z | z
    · exact r3 z
    · exact z _ vs hoc hd

/-- a def made within a call stands at f, and its code is no table -/
def FnQ (h : Heap) (f : Addr) (st : Stmt) (name qual : Str) (cl : List (Str × Addr)) : Prop :=
  ∃ c' doc pm ctv, h.get? f = some (fnMade name qual (sArgs st) (sBody st) (sScope st) cl doc pm c' ctv) ∧ h.CodeRec (.ref c') qual ∧ c' ∉ Wt
theorem FnQ.is {h : Heap} {f : Addr} {st : Stmt} {name qual : Str} {cl : List (Str × Addr)} (x : FnQ h f st name qual cl) : FnIs h f st name qual cl := let ⟨c', doc, pm, ctv, a, b, _⟩ := x; ⟨c', doc, pm, ctv, a, b⟩
theorem FnQ.kpd {V : List Addr} {h h' : Heap} {f : Addr} {st : Stmt} {name qual : Str} {cl : List (Str × Addr)} (x : FnQ h f st name qual cl) (k : KpD V h h') (hf : f ∉ V) (hV : ∀ b ∈ V, b ∈ Wt ∨ ∀ o vs, h.get? b = some o → o.data ≠ .fields vs) : FnQ h' f st name qual cl := by
  obtain ⟨c', doc, pm, ctv, a, b, c⟩ := x
  refine ⟨c', doc, pm, ctv, k _ _ hf (fun _ _ q => by cases q) a, k.code (fun q => ?_) b, c⟩
  obtain ⟨c₂, oc, vs, tk, e2, hoc, hd, hv⟩ := b
  cases e2
  rcases hV _ q with z | z
  · exact c z
  · exact z _ vs hoc hd

end Mine
end

section
open PySem PySem.W PySem.Calls PyProof.Rows PySem.Spec PySem.SeqAt PyProof.V
set_option Elab.async false
set_option maxRecDepth 100000
namespace Mine

/-- the ground of the law's own defs -/
structure LG (w : World) (G : Heap) : Prop where
  X : (KF w).In G
  T : ∃ p loose mean mg mb, Top p loose mean mg mb G
  c1 : CodeHd G 124 120
  c2 : CodeHd G 117 113
  c3 : CodeHd G 110 106
  hid : ∀ b ∈ Wt, G.get? b = none
  sz : ∀ b ∈ Wt, b < G.objs.size

theorem codeAmong_other {pos : Pos} {a b : Int} {c : Value} (hne : ¬ (a = pos.line ∧ b = pos.col)) : ∀ l : List Value, TriplesOk l → codeAmong pos (l ++ [rawInt a, rawInt b, c]) = codeAmong pos l := fun l h => by
  fun_induction TriplesOk l with
  | case1 =>
    show (if (a == (pos.line : Int) && b == (pos.col : Int)) = true then some c else codeAmong pos []) = none
    rw [if_neg]
    · rfl
    · simp only [Bool.and_eq_true, beq_iff_eq]; exact hne
  | case2 a' t b' u x rest ih =>
    simp only [List.cons_append, codeAmong]
    split
    · rfl
    · exact ih h
  | case3 l h1 h2 => exact h.elim

theorem no_name_in_triples {q : Str} {t : Tok} : ∀ {ps : Array Value}, TriplesOk ps.toList → ps[1]? = some (.str q t) → False
  | ⟨[]⟩, _, e => by cases e
  | ⟨[_]⟩, _, e => by cases e
  | ⟨x :: y :: r⟩, h, e => by
    have : y = .str q t := by simpa using e
    subst this
    cases x <;> exact h

section
variable {prog : Program} {w : World} {G : Heap} {W : List Addr} {A : Around} {outer : List Env} {env : Env} {L a : Addr} {cells : List (Str × Addr)} {h₀ h h' : Heap} {dep un : Nat} {m m' cm : Str → Option Value} {E : Value → Shared → Prop} {s : Shared} {cn : Str} {cs : Scope} {ccd : Value} {cl : List (Str × Addr)}

theorem TabQ.keeps {want : List (Pos × Str)} {P : Addr} (x : TabQ want P h) (k : ∀ b o, h.get? b = some o → h'.get? b = some o) : TabQ want P h' := x.kpd (V := []) (fun b o _ _ e => k b o e) (by simp) (by simp)

theorem mkdef {Q : Value → Shared → Prop} {c P : Addr} {want : List (Pos × Str)} {name qual : Str} {params : Arguments} {body : List Stmt} {scope : Scope} {pos : Pos} {clos : List (Str × Addr)} (B : Bl G W A outer (envX cn cs L a ccd cl) L cells h₀ dep un m cm s.heap) (hWP : P ∈ W) (hWG : ∀ b ∈ W, G.get? b = none)
    (X : LG w G) (hcd : ccd = .ref c) (C : CodeHd G c P) (hP : P ∈ Wt) (tq : TabQ want P s.heap) (hw : (pos, qual) ∈ want) (hne : ∀ q ∈ want, q = (pos, qual) ∨ ¬ ((pos.line : Int) = q.1.line ∧ (pos.col : Int) = q.1.col))
    (hcl : closureFor scope (envX cn cs L a ccd cl) = pure clos)
    (h : ∀ f h' tk, Bl G W A outer (envX cn cs L a ccd cl) L cells h₀ dep un m cm h' → (∃ c' doc pm ctv, h'.get? f = some (fnMade name qual params body scope clos doc pm c' ctv) ∧ h'.CodeRec (.ref c') qual ∧ c' ∉ Wt) → TabQ want P h' → Kp [P] s.heap h' → s.heap.get? f = none → f ∉ Wt → Q (.ref f) { s with heap := h', toks := tk }) :
    wpAny (model prog w) A (makeFunction name qual params (.stmts body) scope (envX cn cs L a ccd cl) [] [] [] pos pos.line) Q E s := by
  refine hide fun gl9 hg9 => ?_
  obtain ⟨p, loose, mean, mg, mb, T⟩ := X.T
  refine hg9 ?_
  clear hg9 gl9
  refine hide fun gl9 hg9 => ?_
  obtain ⟨ps, eP, tps, want'⟩ := tq
  refine hg9 ?_
  clear hg9 gl9
  have hGP : G.get? P = none := X.hid P hP
  have hgs := T.g.keeps B.fr.keep
  refine hide fun gl9 hg9 => ?_
  obtain ⟨bm, ob, b1, b2, b3, b4, b5, b6⟩ := T.bmain
  refine hg9 ?_
  clear hg9 gl9
  have hgP : mainGlobals ≠ P := fun q => by
    obtain ⟨o, es, ep, e, hd, _⟩ := T.g
    rw [q, hGP] at e; cases e
  have hbP : bm ≠ P := fun q => by rw [q, hGP] at b3; cases b3
  have hbG : bm ≠ mainGlobals := fun q => by
    obtain ⟨o, es, ep, e, hd, _⟩ := T.g
    rw [q, e] at b3; cases b3; rw [hd] at b6; cases b6
  have BA : s.heap.BuiltinsAt mg P := ⟨bm, ob, b1, b2, hbG, hbP, B.fr.keep _ _ b3, b4, b5, b6⟩
  have hLs := B.fr.ns.lt
  have hlow : ∀ b ∈ Wt, b < s.heap.objs.size := fun b hb => Nat.lt_trans (Nat.lt_of_lt_of_le (X.sz b hb) B.fr.above) hLs
  rcases want' _ hw with hn | ⟨c', hs, hr, hc'⟩
  · refine makeFunction_K (mg := mg) hcl rfl hgs hcd (C.keeps B.fr.keep) eP tps hn hgP BA fun c' ctv doc h' tk hx hge hlt hrec htb => ?_
    have kp : Kp [P] s.heap (h'.push (fnMade name qual params body scope clos doc ((mg "__name__").getD .none) c' ctv)) := fun b o hb e => Heap.get?_push_of_some _ (hx b o (fun q => hb (q ▸ List.mem_singleton.mpr rfl)) e)
    have hnW : c' ∉ Wt := fun q => Nat.lt_irrefl _ (Nat.lt_of_le_of_lt hge (hlow _ q))
    have hsz : s.heap.objs.size ≤ h'.objs.size := Nat.le_of_lt (Nat.lt_of_le_of_lt hge hlt)
    refine h _ _ tk (B.kept (fun b o hb e => kp b o (fun q => hb (by rw [List.mem_singleton.mp q]; exact hWP)) e) hWG) ⟨c', doc, _, ctv, Heap.get?_push_size _ rfl, hrec.keeps fun _ _ e => Heap.get?_push_of_some _ e, hnW⟩ ?_ kp (Heap.get?_none_of_le hsz) (fun q => Nat.lt_irrefl _ (Nat.lt_of_le_of_lt hsz (hlow _ q)))
    refine ⟨_, Heap.get?_push_of_some _ htb, by rw [Array.toList_append]; exact TriplesOk_snoc _ _ _ _ tps, fun q hq => ?_⟩
    rw [Array.toList_append]
    rcases hne q hq with rfl | hq'
    · exact .inr ⟨c', codeAmong_snoc _ tps hn, hrec.keeps fun _ _ e => Heap.get?_push_of_some _ e, hnW⟩
    · rw [codeAmong_other hq' _ tps]
      rcases want' q hq with r | ⟨c₂, r1, ⟨c₃, oc, vs, t, r2, r3, r4, r5⟩, rW⟩
      · exact .inl r
      · refine .inr ⟨c₂, r1, ⟨c₃, oc, vs, t, r2, kp _ _ (fun q => ?_) r3, r4, r5⟩, rW⟩
        have h6 : c₃ = P := List.mem_singleton.mp q
        rw [h6, eP] at r3
        have h7 : oc.data = .fields ps := by rw [← Option.some.inj r3]
        rw [h7] at r4
        have h8 : ps = vs := by cases r4; rfl
        subst h8
        exact no_name_in_triples tps r5
  · refine makeFunction_hit (mg := mg) hcl rfl hgs hcd (C.keeps B.fr.keep) eP tps hs BA fun ctv doc h' tk hk hsz => ?_
    have kp : ∀ b o, s.heap.get? b = some o → (h'.push _).get? b = some o := fun b o e => Heap.get?_push_of_some { cls := .type "function", data := .func (fnX name qual params body scope clos .none .none doc ((mg "__name__").getD .none) none (.ref c') ctv) } (hk b o e)
    refine h _ _ tk (B.grow kp) ⟨c', doc, _, ctv, Heap.get?_push_size _ rfl, hr.keeps kp, hc'⟩ ?_ (fun b o _ e => kp b o e) (Heap.get?_none_of_le hsz) (fun q => Nat.lt_irrefl _ (Nat.lt_of_le_of_lt hsz (hlow _ q)))
    exact TabQ.keeps ⟨ps, eP, tps, want'⟩ kp
end
end Mine
end

section
open PySem PySem.W PySem.Calls PyProof.Rows PySem.Spec PySem.SeqAt PyProof.V
set_option Elab.async false
set_option maxRecDepth 100000
namespace Mine
section
variable {prog : Program} {w : World} {A : Around} {E : Value → Shared → Prop} {g : Array GenState} {d : Drawn} {t : Nat} {os : OsState} {h : Heap}

set_option maxHeartbeats 400000 in
theorem sa93 (w : World) : findIn (KF w) (.ref 93) "__setattr__" = some (some (.builtin "object.__setattr__")) := by kernel_rfl
set_option maxHeartbeats 400000 in
theorem po93 (w : World) : plainOver (KF w) 93 = true := by kernel_rfl
set_option maxHeartbeats 400000 in
theorem in93 (w : World) : findIn (KF w) (.ref 93) "__init__" = some (some (.ref 48)) := by kernel_rfl
set_option maxHeartbeats 400000 in
theorem mk93 (w : World) : makesIn (KF w) 93 = true := by kernel_rfl
set_option maxHeartbeats 400000 in
theorem ft48 (w : World) : typeIn (KF w) (.ref 48) = some (.type "function") := by kernel_rfl

theorem set_one {L x dx : Addr} {m : Str → Option Value} {h₀ : Heap} {s : Shared} {es : List DictEntry} {n : Nat} {name : Str} {v : Value} {Q : Unit → Shared → Prop} (F : Fr h₀ L s.heap m) (X₀ : (KF w).In h₀) (N : News h₀ L s.heap [(x, instObj 93 dx), (dx, dictOf es n)]) (hne : x ≠ dx)
    (ht : takerIn (KF w) 93 name = some none) (hl : getL name es = some none) (hz : es.length ≤ 100) (hk : es.any (·.key.isStr name) = false)
    (h : ∀ h' tk hsh t, Fr h₀ L h' m → News h₀ L h' [(x, instObj 93 dx), (dx, dictOf (es ++ [⟨hsh, .str name t, v⟩]) (n + 1))] → Q () { s with heap := h', toks := tk }) :
    wpAny (model prog w) A (setAttr (.ref x) name v) Q E s := by
  have hput : ∀ hsh key, putL name hsh key v es = es ++ [⟨hsh, key, v⟩] := by
    intro hsh key
    clear N hl hz h
    induction es with
    | nil => rfl
    | cons a r ih =>
      simp only [List.any_cons, Bool.or_eq_false_iff] at hk
      unfold putL
      rw [hk.1, ih hk.2]
      rfl
  refine set_dict F X₀ N (.of_news N (.head _) (.tail _ (.head _))) rfl (sa93 w) (po93 w) ht (hh93 w) (by rw [hl]; rfl) (es' := es ++ [⟨PyData.keyHash w.params name, .str name (s.toks + 1), v⟩]) (n' := n + 1) ?_ (.tail hne (.head (fun _ q => nomatch q))) (by rw [List.length_append]; show es.length + 1 ≤ 1000; lia) (fun h' F' N' => ?_)
  · rw [hput]; unfold putN; rw [hk]; rfl
  · exact h h' _ _ _ F' N'

set_option maxHeartbeats 4000000 in
theorem make_qs {s : Shared} {fg fp fl fh fd : Value} {Q : Value → Shared → Prop} (X : (KF w).In s.heap) (hlim : s.heap.NoLimit) (room : A.depth + 2 < recursionLimit)
    (h : ∀ x dx es n h' tk, s.heap.StaysIn h' → s.heap.get? x = none → s.heap.get? dx = none → h'.get? x = some (instObj 93 dx) → h'.get? dx = some (dictOf es n) →
      getL "get" es = some (some fg) → getL "put" es = some (some fp) → getL "less" es = some (some fl) → getL "hold" es = some (some fh) → getL "drop" es = some (some fd) →
      (getL "order_two" es = some none ∧ getL "order_middle" es = some none ∧ getL "go_up" es = some none ∧ getL "go_down" es = some none ∧ getL "part" es = some none ∧ getL "sort" es = some none) →
      Q (.ref x) { s with heap := h', toks := tk }) : wpAny (model prog w) A (call (.ref 93) [fg, fp, fl, fh, fd]) Q E s := by
  obtain ⟨h₀, g, d, tk0, os⟩ := s
  dsimp only at X hlim h
  refine wpAny_call (make_core (makes_of X (mk93 w)) (looks_findIn X (in93 w)) (fun self => bind_fn X self (ft48 w)) (.inl rfl) ?_)
  have k : ∀ b o, h₀.get? b = some o → ((h₀.push emptyDict).push (instObj 93 h₀.objs.size)).get? b = some o := fun b o e => Heap.get?_push_of_some _ (Heap.get?_push_of_some _ e)
  refine codeAny_call_def (binds := [("self", .ref (h₀.objs.size + 1)), ("get", fg), ("put", fp), ("less", fl), ("hold", fh), ("drop", fd)]) (by show A.depth + 1 < _; lia) (k _ _ (X _ _ (by rfl))) rfl (hlim.keeps k) ((codeRec_of X (by kernel_rfl)).keeps k) rfl (BindsTo.of_eq rfl) (by decide) (locs rfl) (fun h₁ hns hk₁ => ?_)
  have hsz : ((h₀.push emptyDict).push (instObj 93 h₀.objs.size)).objs.size = h₀.objs.size + 2 := by rw [Heap.size_push, Heap.size_push]
  dsimp only at hns hk₁ ⊢
  rw [hsz] at hns ⊢
  have F : Fr h₀ (h₀.objs.size + 2) h₁ (fun x => ([("self", Value.ref (h₀.objs.size + 1)), ("get", fg), ("put", fp), ("less", fl), ("hold", fh), ("drop", fd)] : List (Str × Value)).reverse.lookup x) := ⟨hns, fun b o e => hk₁ b o (k b o e), by lia⟩
  have N : News h₀ (h₀.objs.size + 2) h₁ [(h₀.objs.size + 1, instObj 93 h₀.objs.size), (h₀.objs.size, dictOf [] 0)] := by
    intro q hq
    rcases List.mem_cons.mp hq with rfl | hq
    · exact ⟨hk₁ _ _ (by heap_get), by show h₀.objs.size + 1 ≠ _; lia, Heap.get?_none_of_le (Nat.le_succ _)⟩
    · rcases List.mem_cons.mp hq with rfl | hq
      · exact ⟨hk₁ _ _ (by heap_get), by show h₀.objs.size ≠ _; lia, Heap.get?_none_of_le (Nat.le_refl _)⟩
      · cases hq
  have hne : h₀.objs.size + 1 ≠ h₀.objs.size := by lia
  refine wpAny_execs_cons ?_
  refine plainObj_wpAny_Assign_Attribute ?_
  refine nameX_L F rfl ?_
  refine nameX_L F rfl ?_
  refine set_one F X N hne (by kernel_rfl) (by rfl) (by simp) (by rfl) (fun h' tk h1 t1 F N => ?_)
  refine wpAny_execs_cons ?_
  refine plainObj_wpAny_Assign_Attribute ?_
  refine nameX_L F rfl ?_
  refine nameX_L F rfl ?_
  refine set_one F X N hne (by kernel_rfl) (by rfl) (by simp) (by rfl) (fun h' tk h2 t2 F N => ?_)
  refine wpAny_execs_cons ?_
  refine plainObj_wpAny_Assign_Attribute ?_
  refine nameX_L F rfl ?_
  refine nameX_L F rfl ?_
  refine set_one F X N hne (by kernel_rfl) (by rfl) (by simp) (by rfl) (fun h' tk h3 t3 F N => ?_)
  refine wpAny_execs_cons ?_
  refine plainObj_wpAny_Assign_Attribute ?_
  refine nameX_L F rfl ?_
  refine nameX_L F rfl ?_
  refine set_one F X N hne (by kernel_rfl) (by rfl) (by simp) (by rfl) (fun h' tk h4 t4 F N => ?_)
  refine wpAny_execs_cons ?_
  refine plainObj_wpAny_Assign_Attribute ?_
  refine nameX_L F rfl ?_
  refine nameX_L F rfl ?_
  refine set_one F X N hne (by kernel_rfl) (by rfl) (by simp) (by rfl) (fun h' tk h5 t5 F N => ?_)
  refine wpAny_execs_nil ?_
  refine ⟨rfl, h _ _ _ _ h' tk F.keep (Heap.get?_none_of_le (Nat.le_succ _)) (Heap.get?_none_of_le (Nat.le_refl _)) (N _ (.head _)).1 (N _ (.tail _ (.head _))).1 rfl rfl rfl rfl rfl ⟨rfl, rfl, rfl, rfl, rfl, rfl⟩⟩
end
end Mine
end

section
open PySem PySem.W PySem.Calls PyProof.Rows PySem.Spec PySem.SeqAt PyProof.V
set_option Elab.async false
set_option maxRecDepth 100000
namespace Mine
section
variable {prog : Program} {w : World} {G Gs : Heap} {c : Pl} {orel : ORel} {A : Around} {outer : List Env} {L a : Addr} {h₀ : Heap} {m : Str → Option Value} {σ : Sg} {E : Value → Shared → Prop} {s : Shared} {cn : Str} {cs : Scope} {ccd : Value} {cl : List (Str × Addr)} {p : Program} {loose : List Str} {mg mb : Str → Option Value}

theorem caught {e : Addr} {b₀ : Stmt} {suite : List Stmt} {np pos : Pos} {rest : List ExceptHandler} {Q : Flow → Shared → Prop} (X : (KF w).In G) (T : TopRead p loose mg mb G) (hGs : G.StaysIn Gs) (F : Fr G L h₀ m) (hfr : A.frames = some (envX cn cs L a ccd cl :: outer)) (hLW : L ∉ c.W)
    (fl : Flies Gs c orel 31 (envX cn cs L a ccd cl :: outer) σ h₀ e s.heap)
    (k : ∀ h', Run c orel σ h' → (∀ b o, b ∉ c.W → h₀.get? b = some o → (∀ vs, o.data ≠ .fields vs) → ∃ sl, h'.get? b = some { o with slots := sl }) →
      (∀ b o, b ∉ c.W → b ∉ (envX cn cs L a ccd cl :: outer).filterMap (·.frame) → h₀.get? b = some o → h'.get? b = some o) → Gs.StaysIn h' →
      wpAny (model prog w) (A.mark (some (.ref e))) (execs (b₀ :: suite) (envX cn cs L a ccd cl)) Q (fun _ _ => False) { s with heap := h' })
    (hk : cs.kind = .function := by rfl) (hx : (envX cn cs L a ccd cl).kindOf "BadOrder" = some .globalImplicit := by rfl) :
    wpAny (model prog w) A (noteFrame (.ref e) (envX cn cs L a ccd cl))
      (fun _ s₂ => wpAny (model prog w) A (setFlight (.ref e) none) (fun _ s₃ =>
        wpAny (model prog w) A (handleBy (.ref e) (envX cn cs L a ccd cl) (.ExceptHandler (some (.Name "BadOrder" np)) none (b₀ :: suite) pos :: rest)) Q E s₃) E s₂) E s := by
  refine hide fun gl9 hg9 => ?_
  obtain ⟨base, a0, b1, b2, b3, b4, b5⟩ := fl
  refine hg9 ?_
  clear hg9 gl9
  refine wpAny_looks_onW hfr rfl b4 fun h₄ hheld₄ hsm₄ => ?_
  refine wpAny_landsW hheld₄ fun h₅ hheld hsm₅' => ?_
  have hsm₅ := hsm₄.trans hsm₅'
  have F₅ : Fr G L h₅ m := by
    refine ⟨?_, fun b o e => hheld.1 _ _ (b2 _ _ (hGs _ _ e)), F.above⟩
    obtain ⟨o, es, ep, e0, hd, r⟩ := F.ns
    obtain ⟨sl, e1⟩ := b5 L o hLW e0 (fun vs q => by rw [hd] at q; cases q)
    obtain ⟨sl', e2⟩ := hsm₅ L _ e1 (fun vs q => by rw [hd] at q; cases q)
    exact ⟨_, es, ep, e2, hd, r⟩
  refine hide fun gl9 hg9 => ?_
  obtain ⟨ob, hob, hobc⟩ := hheld.there
  refine hg9 ?_
  clear hg9 gl9
  refine wpAny_handleBy_cons (codeAny_handlers_test (nameX_K F₅ X T (v := .ref 31) (by kernel_rfl) ?_ hk hx)) (by intro q; cases q)
  refine hide fun gl9 hg9 => ?_
  obtain ⟨nm, q, N, bs, hdct, sn, sub, ab, col, dd, k0, k1, k2, k3, k5, e31⟩ := cls31 w
  refine hg9 ?_
  clear hg9 gl9
  have hC := F₅.keep _ _ (X _ _ e31)
  refine wpAny_excMatches_sub_self hC hob hobc (by decide +kernel) (codeAny_handlers_suite ?_)
  refine lands_againW hheld fun h₆ hfl₆ hsm₆ => ?_
  refine wpAny_mono (k h₆ (b3.keeps fun b _ o e => hfl₆.1 b o e) (fun b o hb e hd => ?_) (fun b o hb hf e => hfl₆.1 _ _ (b1 b o hb hf e)) (fun b o e => hfl₆.1 _ _ (b2 _ _ e))) (fun _ _ x => x) fun _ _ x => x.elim
  obtain ⟨sl, e1⟩ := b5 b o hb e hd
  obtain ⟨sl', e2⟩ := hsm₅ b _ e1 hd
  obtain ⟨sl'', e3⟩ := hsm₆ b _ e2 hd
  exact ⟨sl'', e3⟩
end
end Mine
end

section
open PySem PySem.W PySem.Calls PyProof.Rows PySem.Spec PySem.SeqAt PyProof.V
set_option Elab.async false
set_option maxRecDepth 100000
namespace Mine
section
variable {prog : Program} {w : World} {G : Heap} {W : List Addr} {A : Around} {outer : List Env} {env : Env} {L a : Addr} {cells : List (Str × Addr)} {h₀ h h' : Heap} {dep un : Nat} {m m' cm : Str → Option Value} {E : Value → Shared → Prop} {s : Shared} {cn : Str} {cs : Scope} {ccd : Value} {cl : List (Str × Addr)}

/-- U may turn: parts of W, and new lists -/
def Soft (W : List Addr) (L : Addr) (U : List Addr) (h : Heap) : Prop := ∀ b ∈ U, b ∈ W ∨ (L < b ∧ ∃ o, h.get? b = some o ∧ (∀ es n, o.data ≠ .dict es n) ∧ ∀ v, o.data ≠ .cell v)
theorem soft_plain {h : Heap} {b : Addr} {its : Array Value} (p : h.PlainList b its) : ∃ o, h.get? b = some o ∧ (∀ es n, o.data ≠ .dict es n) ∧ ∀ v, o.data ≠ .cell v := let ⟨_, e⟩ := p; ⟨_, e, fun _ _ q => (nomatch q), fun _ q => (nomatch q)⟩
theorem soft_fields {h : Heap} {b : Addr} (p : ∃ o fs, h.get? b = some o ∧ o.data = .fields fs) : ∃ o, h.get? b = some o ∧ (∀ es n, o.data ≠ .dict es n) ∧ ∀ v, o.data ≠ .cell v := let ⟨_, _, e, d⟩ := p; ⟨_, e, fun _ _ q => (by rw [d] at q; cases q), fun _ q => (by rw [d] at q; cases q)⟩
theorem ns_ne_soft {h : Heap} {L b : Addr} {m : Str → Option Value} (n : h.Ns L m) (p : ∃ o, h.get? b = some o ∧ (∀ es n, o.data ≠ .dict es n) ∧ ∀ v, o.data ≠ .cell v) : L ≠ b := fun q => by
  refine hide fun gl9 hg9 => ?_
  obtain ⟨o, es, ep, e, hd, _⟩ := n
  refine hg9 ?_
  clear hg9 gl9
  refine hide fun gl9 hg9 => ?_
  obtain ⟨o', e2, d, _⟩ := p
  refine hg9 ?_
  clear hg9 gl9
  rw [q, e2] at e; cases e; exact d _ _ hd
theorem cell_ne_soft {h : Heap} {c b : Addr} {v : Option Value} (n : h.IsCell c v) (p : ∃ o, h.get? b = some o ∧ (∀ es n, o.data ≠ .dict es n) ∧ ∀ v, o.data ≠ .cell v) : c ≠ b := fun q => by
  refine hide fun gl9 hg9 => ?_
  obtain ⟨o, e, hd⟩ := n
  refine hg9 ?_
  clear hg9 gl9
  refine hide fun gl9 hg9 => ?_
  obtain ⟨o', e2, _, d⟩ := p
  refine hg9 ?_
  clear hg9 gl9
  rw [q, e2] at e; cases e; exact d _ hd

theorem ns_ne_list {h : Heap} {L b : Addr} {m : Str → Option Value} {its : Array Value} (n : h.Ns L m) (p : h.PlainList b its) : L ≠ b := fun q => by
  refine hide fun gl9 hg9 => ?_
  obtain ⟨o, es, ep, e, hd, _⟩ := n
  refine hg9 ?_
  clear hg9 gl9
  obtain ⟨k, e2⟩ := p
  rw [q, e2] at e; cases e; cases hd
theorem cell_ne_list {h : Heap} {c b : Addr} {v : Option Value} {its : Array Value} (n : h.IsCell c v) (p : h.PlainList b its) : c ≠ b := fun q => by
  refine hide fun gl9 hg9 => ?_
  obtain ⟨o, e, hd⟩ := n
  refine hg9 ?_
  clear hg9 gl9
  obtain ⟨k, e2⟩ := p
  rw [q, e2] at e; cases e; cases hd

theorem FFr.turn {G G' : Heap} {W W' : List Addr} {h h' : Heap} (k : ∀ b, ∀ m, h.Ns b m → b ∉ W → G.get? b = none → (h'.Ns b m ∧ b ∉ W' ∧ G'.get? b = none)) : ∀ {l : List Env}, FFr G W h l → FFr G' W' h' l
  | [], _ => trivial
  | _ :: _, ⟨a, ⟨L, m, b1, b2, b3, b4⟩, r⟩ => ⟨a, ⟨L, m, b1, (k L m b4 b3 b2).2.2, (k L m b4 b3 b2).2.1, (k L m b4 b3 b2).1⟩, FFr.turn k r⟩

theorem Bl.softly (B : Bl G W A outer env L cells h₀ dep un m cm h) (U : List Addr) (hU : Soft W L U h) (hWG : ∀ b ∈ W, G.get? b = none) (k : KpL (L :: outer.filterMap (·.frame)) U h h') : Bl G W A outer env L cells h₀ dep un m cm h' := by
  have off : ∀ b n, h.Ns b n → b ∉ W → b ∉ U := fun b n hn hb q => (hU b q).elim hb fun ⟨_, p⟩ => ns_ne_soft hn p rfl
  have nsk : ∀ b n, h.Ns b n → b ∉ W → h'.Ns b n := fun b n hn hb => k.ns (off b n hn hb) hn
  have inF : ∀ b ∈ L :: outer.filterMap (·.frame), ∃ n, h.Ns b n := fun b hb => by
    rcases List.mem_cons.mp hb with rfl | hb
    · exact ⟨m, B.fr.ns⟩
    · exact (FFr.off B.ff hb).2.2
  refine { B with
    fr := ⟨nsk _ _ B.fr.ns B.lw, fun b o e => k.1 b o (fun q => ?_) (fun q => ?_) (B.fr.keep b o e), B.fr.above⟩
    cl := ⟨fun n c e => ?_, B.cl.apart, B.cl.above⟩
    kp := ?_
    ff := B.ff.turn fun b n hn hb hg => ⟨nsk b n hn hb, hb, hg⟩ }
  · rcases hU b q with q | ⟨q, _⟩
    · rw [hWG b q] at e; cases e
    · rw [B.gl b (Nat.le_of_lt q)] at e; cases e
  · rcases List.mem_cons.mp q with rfl | q
    · rw [B.gl _ (Nat.le_refl _)] at e; cases e
    · rw [(FFr.off B.ff q).1] at e; cases e
  · have hc := B.cl.cell n c e
    obtain ⟨o, ho, hd⟩ := hc
    refine ⟨o, k.1 c o (fun q => (hU c q).elim (B.cw n c (mem_of_lookup e)) fun ⟨_, p⟩ => cell_ne_soft ⟨o, ho, hd⟩ p rfl) (fun q => ?_) ho, hd⟩
    obtain ⟨n', o', es, ep, e', hd', _⟩ := inF c q
    rw [ho] at e'; cases e'; rw [hd] at hd'; cases hd'
  · -- as seen from h₀
    have hnew : ∀ b o, h₀.get? b = some o → b ∉ W → b ∉ U := fun b o e hb q => (hU b q).elim hb fun ⟨q, _⟩ => by rw [B.new b (Nat.le_of_lt q)] at e; cases e
    refine ⟨fun b o hb hf e => k.1 b o (hnew b o e hb) (fun q => ?_) (B.kp.1 b o hb hf e), fun b o hb e hn => ?_⟩
    · rcases List.mem_cons.mp q with rfl | q
      · rw [B.new _ (Nat.le_refl _)] at e; cases e
      · exact hf q
    · obtain ⟨sl, e1⟩ := B.kp.2 b o hb e hn
      obtain ⟨sl', e2⟩ := k.2 b _ (hnew b o e hb) e1 hn
      exact ⟨sl', e2⟩

/-- a call by its contract, which may turn U -/
theorem bl_callV {U : List Addr} {f : Value} {args : List Value} {P : List Addr → Heap → Prop} {Qr : List Addr → Heap → Value → Heap → Prop} {dep' un' : Nat} {Q : Value → Shared → Prop} (Mt : MeetsL prog w G U dep' un' f args P Qr)
    (B : Bl G W A outer env L cells h₀ dep un m cm s.heap) (hU : Soft W L U s.heap) (hWG : ∀ b ∈ W, G.get? b = none) (hd : dep' ≤ dep) (hu : un' ≤ un) (hP : P (L :: outer.filterMap (·.frame)) s.heap)
    (h : ∀ v h' tk, Bl G W A outer env L cells h₀ dep un m cm h' → Qr (L :: outer.filterMap (·.frame)) s.heap v h' → KpL (L :: outer.filterMap (·.frame)) U s.heap h' → KpD U s.heap h' → Q v { s with heap := h', toks := tk }) :
    wpAny (model prog w) A (call f args) Q E s := by
  have ef : (env :: outer).filterMap (·.frame) = L :: outer.filterMap (·.frame) := by rw [List.filterMap_cons, B.ef]
  have ok := B.ok.le hd hu
  have ok' : Ok G U A (env :: outer) s.heap dep' un' := { ok with ff := ok.ff.turn fun b n hn hb hg => ⟨hn, fun q => (hU b q).elim hb fun ⟨_, p⟩ => ns_ne_soft hn p rfl, hg⟩ }
  refine wpAny_call (Mt A (env :: outer) s _ ok' B.fr.keep (ef ▸ hP) fun v h' tk st k q => ?_)
  rw [ef] at k q
  refine h v h' tk (B.softly U hU hWG k) q k (KpD.of_kpl k fun b hb => ?_)
  rcases List.mem_cons.mp hb with rfl | hb
  · exact ⟨m, B.fr.ns⟩
  · exact (FFr.off B.ff hb).2.2

theorem kpd_store (hn : h.Ns L m) (k : Kp [L] h h') : KpD [] h h' := fun b o _ d e => k b o (fun q => by
  refine hide fun gl9 hg9 => ?_
  obtain ⟨o', es, ep, e', hd, _⟩ := hn
  refine hg9 ?_
  clear hg9 gl9
  rw [List.mem_singleton.mp q, e'] at e; cases e
  exact d _ _ hd) e

/-- facts about lists and defs that stay -/
def RM (ls : List (Addr × Array Value)) (fs : List (Addr × Stmt × Str × Str × List (Str × Addr))) (h : Heap) : Prop :=
  (∀ q ∈ ls, h.PlainList q.1 q.2) ∧ ∀ f ∈ fs, FnQ h f.1 f.2.1 f.2.2.1 f.2.2.2.1 f.2.2.2.2 ∧ f.1 ∉ Wt
def Soft2 (U : List Addr) (h : Heap) : Prop := ∀ b ∈ U, b ∈ Wt ∨ ∃ v, h.IsCell b v
theorem Soft2.v {U : List Addr} (x : Soft2 U h) : ∀ b ∈ U, b ∈ Wt ∨ ∀ o vs, h.get? b = some o → o.data ≠ .fields vs := fun b hb => (x b hb).imp id fun ⟨v, o, e, d⟩ o' vs e' d' => by rw [e] at e'; cases e'; rw [d] at d'; cases d'
theorem soft2_cell {c : Addr} {v : Option Value} (x : h.IsCell c v) : Soft2 [c] h := fun b hb => .inr ⟨v, by rw [List.mem_singleton.mp hb]; exact x⟩
theorem soft2_tab {b : Addr} (x : b ∈ Wt) : Soft2 [b] h := fun b hb => .inl (by rw [List.mem_singleton.mp hb]; exact x)
theorem RM.kpd {ls : List (Addr × Array Value)} {fs : List (Addr × Stmt × Str × Str × List (Str × Addr))} {U : List Addr} (x : RM ls fs h) (k : KpD U h h') (hU : Soft2 U h) (hl : ∀ q ∈ ls, q.1 ∉ Wt) : RM ls fs h' := by
  refine ⟨fun q hq => k.plain (fun z => (hU _ z).elim (hl q hq) fun ⟨v, hc⟩ => cell_ne_list hc (x.1 q hq) rfl) (x.1 q hq), fun f hf => ⟨(x.2 f hf).1.kpd k (fun z => ?_) (fun b hb => (hU b hb).imp id fun ⟨v, o, e, d⟩ o' vs e' d' => by rw [e] at e'; cases e'; rw [d] at d'; cases d'), (x.2 f hf).2⟩⟩
  rcases hU _ z with z | ⟨v, o, e, d⟩
  · exact (x.2 f hf).2 z
  · obtain ⟨c', doc, pm, ctv, a, _⟩ := (x.2 f hf).1
    rw [e] at a; cases a; cases d
theorem RM.consL {ls : List (Addr × Array Value)} {fs : List (Addr × Stmt × Str × Str × List (Str × Addr))} {b : Addr} {its : Array Value} (x : RM ls fs h) (p : h.PlainList b its) : RM ((b, its) :: ls) fs h :=
  ⟨fun q hq => by rcases List.mem_cons.mp hq with rfl | hq; exact p; exact x.1 q hq, x.2⟩
theorem RM.consF {ls : List (Addr × Array Value)} {fs : List (Addr × Stmt × Str × Str × List (Str × Addr))} {f : Addr} {st : Stmt} {n q : Str} {c : List (Str × Addr)} (x : RM ls fs h) (p : FnQ h f st n q c) (hf : f ∉ Wt) : RM ls ((f, st, n, q, c) :: fs) h :=
  ⟨x.1, fun g hg => by rcases List.mem_cons.mp hg with rfl | hg; exact ⟨p, hf⟩; exact x.2 g hg⟩

theorem bl_def {Q : Flow → Shared → Prop} {c P : Addr} {want : List (Pos × Str)} {name qual : Str} {params : Arguments} {body : List Stmt} {scope : Scope} {pos : Pos} {clos : List (Str × Addr)} (B : Bl G W A outer (envX cn cs L a ccd cl) L cells h₀ dep un m cm s.heap) (hWP : P ∈ W) (hWG : ∀ b ∈ W, G.get? b = none)
    (X : LG w G) (hcd : ccd = .ref c) (C : CodeHd G c P) (hP : P ∈ Wt) (tq : TabQ want P s.heap) (hq : qualnameIn (envX cn cs L a ccd cl) name name = qual) (hw : (pos, qual) ∈ want) (hne : ∀ q ∈ want, q = (pos, qual) ∨ ¬ ((pos.line : Int) = q.1.line ∧ (pos.col : Int) = q.1.col))
    (hcl : closureFor scope (envX cn cs L a ccd cl) = pure clos)
    (h : ∀ f h' tk, Bl G W A outer (envX cn cs L a ccd cl) L cells h₀ dep un (fun y => if y = name then some (.ref f) else m y) cm h' → (∃ c' doc pm ctv, h'.get? f = some (fnMade name qual params body scope clos doc pm c' ctv) ∧ h'.CodeRec (.ref c') qual ∧ c' ∉ Wt) → TabQ want P h' → KpD [P] s.heap h' → s.heap.get? f = none → f ∉ Wt → Q .next { s with heap := h', toks := tk })
    (hd0 : params.defaults = [] := by rfl) (hk0 : params.kw_defaults = [] := by rfl) (ha : annTrees params none (envX cn cs L a ccd cl) = [] := by rfl) (hx : (envX cn cs L a ccd cl).kindOf name = some .local := by rfl) :
    wpAny (model prog w) A (exec (.FunctionDef name params body [] none [] scope none name pos) (envX cn cs L a ccd cl)) Q E s := by
  refine nestDef_K hd0 hk0 ha ?_
  rw [hq]
  refine mkdef B hWP hWG X hcd C hP tq hw hne hcl fun f h' tk B' fq tq' k hn hf => ?_
  refine bl_store (s := { s with heap := h', toks := tk }) B' (fun h'' B'' k' => ?_) hx
  have kd : KpD [] h' h'' := kpd_store B'.fr.ns k'
  refine h f h'' _ B'' ?_ (tq'.kpd kd (by simp) (by simp)) ((KpD.of_kp k).trans (kd.mono (by simp))) hn hf
  refine hide fun gl9 hg9 => ?_
  obtain ⟨c', doc, pm, ctv, a1, a2, a3⟩ := fq
  refine hg9 ?_
  clear hg9 gl9
  exact ⟨c', doc, pm, ctv, kd _ _ (by simp) (fun _ _ q => by cases q) a1, kd.code (by simp) a2, a3⟩

theorem bl_add {a b : Addr} {vs ws : List Value} {Q : Value → Shared → Prop} (B : Bl G W A outer env L cells h₀ dep un m cm s.heap) (pa : s.heap.PlainList a vs.toArray) (pb : s.heap.PlainList b ws.toArray) (hsz : vs.length + ws.length ≤ 100000)
    (h : ∀ t h', Bl G W A outer env L cells h₀ dep un m cm h' → h'.PlainList t (vs ++ ws).toArray → s.heap.StaysIn h' → L < t → s.heap.get? t = none → Q (.ref t) { s with heap := h' }) : wpAny (model prog w) A (binaryOp .Add (.ref a) (.ref b)) Q E s := by
  obtain ⟨n1, p1⟩ := pa
  obtain ⟨n2, p2⟩ := pb
  refine P.add_list p1 p2 ?_ (by rw [List.size_toArray, List.size_toArray, sizeLine_eq]; lia)
  have e : vs.toArray ++ ws.toArray = (vs ++ ws).toArray := by simp
  rw [e]
  exact h _ _ (B.grow fun _ _ e => Heap.get?_push_of_some _ e) ⟨_, Heap.get?_push_size _ rfl⟩ (fun _ _ e => Heap.get?_push_of_some _ e) B.fr.ns.lt (Heap.get?_none_of_le (Nat.le_refl _))

theorem bl_copy {a : Addr} {vs : List Value} {Q : Value → Shared → Prop} (B : Bl G W A outer env L cells h₀ dep un m cm s.heap) (pa : s.heap.IsList a vs.toArray) (hsz : vs.length ≤ 100000)
    (h : ∀ t h', Bl G W A outer env L cells h₀ dep un m cm h' → h'.PlainList t vs.toArray → s.heap.StaysIn h' → L < t → s.heap.get? t = none → Q (.ref t) { s with heap := h' }) : wpAny (model prog w) A (call (.type "list") [.ref a]) Q E s := by
  refine hide fun gl9 hg9 => ?_
  obtain ⟨o, p1, hc, n, hd⟩ := pa
  refine hg9 ?_
  clear hg9 gl9
  refine call_list_seq (hsz := by rw [List.size_toArray, sizeLine_eq]; lia) a (.inl rfl) p1 hc hd (fun h2 c2 k2 p2 => ?_)
  exact h _ _ (B.grow k2) ⟨_, p2⟩ k2 B.fr.ns.lt (Heap.get?_none_of_le (Nat.le_refl _))
end
end Mine
end

section
open PySem PySem.W PySem.Calls PyProof.Rows PySem.Spec PySem.SeqAt PyProof.V
set_option Elab.async false
set_option maxRecDepth 100000
namespace Mine

section
variable {α : Type} {p : α → Prop} {a b c d e f : α}
theorem all4 (h1 : p a) (h2 : p b) (h3 : p c) (h4 : p d) : ∀ x ∈ [a, b, c, d], p x :=
  List.forall_mem_cons.mpr ⟨h1, List.forall_mem_cons.mpr ⟨h2, List.forall_mem_cons.mpr ⟨h3, List.forall_mem_cons.mpr ⟨h4, fun _ h => nomatch h⟩⟩⟩⟩
theorem all3 (h1 : p a) (h2 : p b) (h3 : p c) : ∀ x ∈ [a, b, c], p x :=
  List.forall_mem_cons.mpr ⟨h1, List.forall_mem_cons.mpr ⟨h2, List.forall_mem_cons.mpr ⟨h3, fun _ h => nomatch h⟩⟩⟩
theorem all5 (h1 : p a) (h2 : p b) (h3 : p c) (h4 : p d) (h5 : p e) : ∀ x ∈ [a, b, c, d, e], p x := List.forall_mem_cons.mpr ⟨h1, all4 h2 h3 h4 h5⟩
theorem all6 (h1 : p a) (h2 : p b) (h3 : p c) (h4 : p d) (h5 : p e) (h6 : p f) : ∀ x ∈ [a, b, c, d, e, f], p x := List.forall_mem_cons.mpr ⟨h1, all5 h2 h3 h4 h5 h6⟩
end
theorem nodup5 {α : Type} {a b c d e : α} (h1 : ∀ x ∈ [b, c, d, e], x ≠ a) (h2 : ∀ x ∈ [c, d, e], x ≠ b) (h3 : d ≠ c) (h4 : e ≠ c) (h5 : e ≠ d) : [a, b, c, d, e].Nodup :=
  List.nodup_cons.mpr ⟨fun q => h1 _ q rfl, List.nodup_cons.mpr ⟨fun q => h2 _ q rfl, List.nodup_cons.mpr ⟨fun q => (List.mem_cons.mp q).elim h3.symm fun q => h4 (List.mem_singleton.mp q).symm, List.nodup_cons.mpr ⟨fun q => h5 (List.mem_singleton.mp q).symm, List.pairwise_singleton _ _⟩⟩⟩⟩
theorem plain_lt {h : Heap} {a : Addr} {its : Array Value} (x : h.PlainList a its) : a < h.objs.size := let ⟨_, e⟩ := x; Heap.lt_size e
theorem plain_some {h : Heap} {a : Addr} {its : Array Value} (x : h.PlainList a its) : ∃ o, h.get? a = some o := let ⟨_, e⟩ := x; ⟨_, e⟩
theorem plain_ne {h : Heap} {a b : Addr} {its : Array Value} (x : h.PlainList a its) (y : h.get? b = none) : b ≠ a := fun q => by
  obtain ⟨_, e⟩ := x; rw [← q, y] at e; cases e
theorem ne_some {h : Heap} {a b : Addr} {o : Obj} (x : h.get? a = some o) (y : h.get? b = none) : a ≠ b := fun q => by rw [q, y] at x; cases x
theorem plain_seq {h : Heap} {a : Addr} {its : Array Value} {o : Obj} (x : h.PlainList a its) (y : h.get? a = some o) : ∃ vs n, o.data = .seq vs n := by
  obtain ⟨_, e⟩ := x; rw [e] at y; cases y; exact ⟨_, _, rfl⟩
theorem plain_no {h : Heap} {a b : Addr} {its : Array Value} {o : Obj} (x : h.PlainList a its) (y : h.get? b = some o) (d : ∀ vs n, o.data ≠ .seq vs n) : b ≠ a := fun q => by
  subst q; obtain ⟨_, _, e⟩ := plain_seq x y; exact d _ _ e

def sPos : Stmt → Pos | .FunctionDef _ _ _ _ _ _ _ _ _ pos => pos | _ => ⟨0, 0, 0, 0⟩
abbrev wRun : List (Pos × Str) := [(sPos (innS 6 1), "_law_run.<locals>.read"), (sPos (innS 6 2), "_law_run.<locals>.write"), (sPos (innS 6 3), "_law_run.<locals>.keep"), (sPos (innS 6 4), "_law_run.<locals>.let_go")]

/-- what the ground of a sorting keeps -/
def Keep5 (h Gs : Heap) (c : Pl) : Prop := ∀ b o, h.get? b = some o → (∀ es n, o.data ≠ .dict es n) → b ∉ Wt → ((∃ vs n, o.data = .seq vs n) → b ∉ c.W) → Gs.get? b = some o

/-- a way to compare, made at h -/
def LessAt (prog : Program) (w : World) (G h : Heap) (aO : Addr) (D : List Addr) (fl : Addr) (orel : ORel) (tl : Value → Value → Tr Bool) : Prop :=
  ∀ Gs c, c.aO = aO → c.W.Nodup → (∀ a ∈ c.W, Gs.get? a = none) → G.StaysIn Gs → Keep5 h Gs c → (∀ d ∈ D, d ∉ c.W) → ∀ a b, Meets prog w Gs c orel 31 20 100 (.ref fl) [a, b] relB (tl a b)

structure RunPre (prog : Program) (w : World) (G : Heap) (aX aS aH aK aO fl : Addr) (orel : ORel) (tl : Value → Value → Tr Bool) (ivs : List Value) (ns : List Int) (O₀ : List Bool) (D : List Addr) (h : Heap) : Prop where
  tab : TabQ wRun 113 h
  x : h.PlainList aX ivs.toArray
  xs : IntsAre ivs ns
  len : ns.length ≤ 24
  S : h.PlainList aS #[]
  H : h.PlainList aH #[]
  K : h.PlainList aK #[]
  O : ∃ vo, h.PlainList aO vo.toArray ∧ orel O₀ vo
  Ol : O₀.length ≤ 1000
  nd : [aX, aS, aH, aK, aO].Nodup
  off : ∀ b ∈ [aX, aS, aH, aK, aO], G.get? b = none ∧ b ∉ Wt
  fn : FnAt fl h
  fnW : fl ∉ Wt
  less : LessAt prog w G h aO D fl orel tl
  D : ∀ d ∈ D, d ∉ [aS, aH, aK, aO] ∧ h.get? d ≠ none

def RunPost (aS aH aK aO : Addr) (orel : ORel) (Qp Ep : Sg → Prop) (h : Heap) (v : Value) (h' : Heap) : Prop :=
  ∃ aP T σ' b, v = .ref T ∧ IsTup h' T #[.ref aP, .bool b] ∧ h.get? aP = none ∧ h.get? T = none ∧ Run ⟨aP, aS, aH, aK, aO⟩ orel σ' h' ∧ (if b then Qp σ' else Ep σ') ∧ TabQ wRun 113 h'

abbrev sg0 (ivs : List Value) (O₀ : List Bool) (t u : Tok) : Sg := { P := .str "begin" t :: (ivs ++ [.str "end" u]), S := [], H := [], K := [], O := O₀, n := 0 }

section
variable {prog : Program} {w : World} {G : Heap} {A : Around} {outer : List Env} {h₀ h h' : Heap} {E : Value → Shared → Prop} {s : Shared}

theorem ints_ok {vs : List Value} {ns : List Int} (x : IntsAre vs ns) : ∀ v ∈ vs, VOk v := by
  induction x with
  | nil => intro v hv; cases hv
  | cons n t _ ih => intro v hv; rcases List.mem_cons.mp hv with rfl | hv; exact .inl ⟨_, _, rfl⟩; exact ih v hv

theorem const_str {x : Str} {k : Nat} {pos : Pos} {env : Env} {Q : Value → Shared → Prop} {M : Model} (h : ∀ t tk, Q (.str x t) { s with toks := tk }) : wpAny M A (eval (.Constant (.str x) k pos) env) Q E s := Calls.Constant_str (h _ _)

abbrev envRun (L : Addr) : Env := envX "_law_run" (sScope (topS 6)) L 118 (.ref 117) (cellsFrom (L + 1) (sScope (topS 6)).names [])
abbrev cellsRun (L : Addr) : List (Str × Addr) := cellsFrom (L + 1) (sScope (topS 6)).names []

theorem run_tail {W : List Addr} {L aP aS aH aK aO : Addr} {orel : ORel} {m cm : Str → Option Value} {dep un : Nat} {Qp Ep : Sg → Prop} {Qb : Flow → Shared → Prop} {Eb : Value → Shared → Prop} {b : Bool} {σ : Sg}
    (B : Bl G W A outer (envRun L) L (cellsRun L) h₀ dep un m cm s.heap) (hm : m "is_done" = some (.bool b)) (hcm : cm "places" = some (.ref aP)) (hP : L < aP) (ru : Run ⟨aP, aS, aH, aK, aO⟩ orel σ s.heap) (hq : if b then Qp σ else Ep σ) (tq : TabQ wRun 113 s.heap)
    (hQ : ∀ fl h' tk, G.StaysIn h' → KpL (outer.filterMap (·.frame)) W h₀ h' → RunPost aS aH aK aO orel Qp Ep h₀ (flowV fl) h' → Qb fl { s with heap := h', toks := tk }) :
    wpAny (model prog w) A (execs [innS 6 7] (envRun L)) Qb Eb s := by
  refine wpAny_execs_cons ?_
  refine wpAny_Return_some ?_
  refine Tuple_ ?_
  refine args_cons ?_
  refine cell_L B (ca := L + 4) (by rfl) hcm ?_
  refine args_cons ?_
  refine nameX_L B.fr hm ?_
  refine args_nil ?_
  refine bl_newTuple B (fun t h' B' it kk lt => ?_)
  exact hQ (.ret (.ref t)) h' _ B'.fr.keep B'.kp ⟨aP, t, σ, b, rfl, it, B.new _ (Nat.le_of_lt hP), B.new _ (Nat.le_of_lt lt), ru.keeps fun b _ o e => kk b o e, hq, tq.keeps kk⟩

set_option maxHeartbeats 4000000 in
theorem run_meetsL (X : LG w G) {aX aS aH aK aO fl : Addr} {orel : ORel} {tl : Value → Value → Tr Bool} {ivs : List Value} {ns : List Int} {O₀ : List Bool} {D : List Addr} {n k : Nat} {Qp Ep : Sg → Prop} (hk : k ≤ 150)
    (Hs : ∀ t u, tSort tl n k 1 ns.length (fun _ => Qp) Ep (sg0 ivs O₀ t u)) :
    MeetsL prog w G [aS, aH, aK, aO, 113] (70 + k + 1) (500 + 10 * k + 3) (.ref 118) [.ref aX, .ref fl, .ref aS, .ref aH, .ref aK] (fun _ h => RunPre prog w G aX aS aH aK aO fl orel tl ivs ns O₀ D h) (fun _ h v h' => RunPost aS aH aK aO orel Qp Ep h v h') := by
  refine hide fun gl9 hg9 => ?_
  obtain ⟨p, loose, mean, mg, mb, T⟩ := X.T
  refine hg9 ?_
  clear hg9 gl9
  refine meetsL_fnC (f := 118) (binds := [("some", .ref aX), ("less", .ref fl), ("seen", .ref aS), ("held", .ref aH), ("kept", .ref aK)]) T.nolimit (fun fs h P hs b hb => ?_) (X.X _ _ (by rfl)) rfl (codeRec_of X.X (by kernel_rfl)) rfl (kindsX (by rfl)) rfl rfl rfl _ _ rfl rfl ?_
  · obtain ⟨vo, e4, _⟩ := P.O; obtain ⟨ps, e5, _⟩ := P.tab
    exact all5 (p := fun b => b < h.objs.size) (plain_lt P.S) (plain_lt P.H) (plain_lt P.K) (plain_lt e4) (Heap.lt_size e5) b hb
  intro A outer L h₀ s Qb Eb B P0 st hQ hP
  have T' := topRead_of T
  have oS := P0.off aS (.tail _ (.head _))
  have oH := P0.off aH (.tail _ (.tail _ (.head _)))
  have oK := P0.off aK (.tail _ (.tail _ (.tail _ (.head _))))
  have oO := P0.off aO (.tail _ (.tail _ (.tail _ (.tail _ (.head _)))))
  have hWG : ∀ b ∈ [aS, aH, aK, aO, 113], G.get? b = none := all5 oS.1 oH.1 oK.1 oO.1 (X.hid _ (by simp))
  -- places
  dsimp only at B hP ⊢
  have len24 : ivs.length ≤ 24 := by have := P0.xs.length; have := P0.len; lia
  refine wpAny_execs_cons ?_
  refine wpAny_Assign_Name ?_
  refine wpAny_BinOp ?_
  refine wpAny_BinOp ?_
  refine List_ ?_
  refine args_cons ?_
  refine const_str (fun tb _ => ?_)
  refine args_nil ?_
  refine bl_newList B (fun t1 h1 B p1 k1 l1 _ => ?_)
  have k1' := fun b o e => k1 b o (st b o e)
  refine Call_ ?_
  refine nameX_B B.fr X.X T' (by kernel_rfl) PyProof.Rows.boot_list (by decide) ?_
  refine PyProof.Rows.callWith_type1 ?_
  refine args_cons ?_
  refine nameX_L B.fr rfl ?_
  refine args_nil ?_
  refine bl_copy B (P0.x.at (k1' _)).isList (by lia) (fun t2 h2 B p2 k2 l2 _ => ?_)
  refine bl_add B (p1.at (k2 _)) p2 (by show 1 + ivs.length ≤ _; lia) (fun t3 h3 B p3 k3 l3 _ => ?_)
  refine List_ ?_
  refine args_cons ?_
  refine const_str (fun te _ => ?_)
  refine args_nil ?_
  refine bl_newList B (fun t4 h4 B p4 k4 l4 _ => ?_)
  refine bl_add B (p3.at (k4 _)) p4 (by simp; lia) (fun aP h5 B p5 k5 l5 n5 => ?_)
  have k5' : h₀.StaysIn h5 := fun b o e => k5 _ _ (k4 _ _ (k3 _ _ (k2 _ _ (k1' _ _ e))))
  refine hide fun gl9 hg9 => ?_
  obtain ⟨vo, po, ho⟩ := P0.O
  refine hg9 ?_
  clear hg9 gl9
  have rm5 : RM [(aP, (([Value.str "begin" tb] ++ ivs) ++ [Value.str "end" te]).toArray), (aX, ivs.toArray), (aS, #[]), (aH, #[]), (aK, #[]), (aO, vo.toArray)] [] h5 := by
    exact ⟨all6 p5 (P0.x.at (k5' _)) (P0.S.at (k5' _)) (P0.H.at (k5' _)) (P0.K.at (k5' _)) (po.at (k5' _)), fun f hf => by cases hf⟩
  have tq5 : TabQ wRun 113 h5 := P0.tab.keeps k5'
  have lowL : ∀ b ∈ Wt, b < L := fun b hb => Nat.lt_of_lt_of_le (X.sz b hb) B.fr.above
  have rl : ∀ q ∈ ([(aP, (([Value.str "begin" tb] ++ ivs) ++ [Value.str "end" te]).toArray), (aX, ivs.toArray), (aS, #[]), (aH, #[]), (aK, #[]), (aO, vo.toArray)] : List (Addr × Array Value)), q.1 ∉ Wt :=
    all6 (fun z => Nat.lt_irrefl _ (Nat.lt_trans l5 (lowL _ z))) (P0.off aX (.head _)).2 oS.2 oH.2 oK.2 oO.2
  refine bl_storeC B (c := L + 4) (by rfl) (fun h6 B6 k6 => ?_)
  have sc := soft2_cell (B.cl.cell "places" (L + 4) (by rfl))
  have rm6 := rm5.kpd (KpD.of_kp k6) sc rl
  have tq6 : TabQ wRun 113 h6 := tq5.kpd (KpD.of_kp k6) (fun q => Nat.lt_irrefl _ (Nat.lt_trans (Nat.lt_add_of_pos_right (show 0 < 4 by decide)) (List.mem_singleton.mp q ▸ lowL 113 (by simp)))) sc.v
  have h113 : ∀ {h : Heap}, Soft2 [113] h := soft2_tab (by simp)
  refine wpAny_execs_cons ?_
  refine bl_def (P := 113) (c := 117) (want := wRun) B6 (by simp) hWG X rfl X.c2 (by simp) tq6 (qual := "_law_run.<locals>.read") (by kernel_rfl) (.head _) (by decide +kernel) (clos := [("seen", L + 1), ("places", L + 4)]) (by rfl) (fun f1 h7 tk7 B7 q7 tq7 k7 n7 w7 => ?_)
  have rm7 := (rm6.kpd k7 h113 rl).consF (f := f1) (st := innS 6 1) (n := "read") q7 w7
  refine wpAny_execs_cons ?_
  refine bl_def (P := 113) (c := 117) (want := wRun) B7 (by simp) hWG X rfl X.c2 (by simp) tq7 (qual := "_law_run.<locals>.write") (by kernel_rfl) (.tail _ (.head _)) (by decide +kernel) (clos := [("seen", L + 1), ("places", L + 4)]) (by rfl) (fun f2 h8 tk8 B8 q8 tq8 k8 n8 w8 => ?_)
  have rm8 := (rm7.kpd k8 h113 rl).consF (f := f2) (st := innS 6 2) (n := "write") q8 w8
  refine wpAny_execs_cons ?_
  refine bl_def (P := 113) (c := 117) (want := wRun) B8 (by simp) hWG X rfl X.c2 (by simp) tq8 (qual := "_law_run.<locals>.keep") (by kernel_rfl) (.tail _ (.tail _ (.head _))) (by decide +kernel) (clos := [("kept", L + 3), ("held", L + 2)]) (by rfl) (fun f3 h9 tk9 B9 q9 tq9 k9 n9 w9 => ?_)
  have rm9 := (rm8.kpd k9 h113 rl).consF (f := f3) (st := innS 6 3) (n := "keep") q9 w9
  refine wpAny_execs_cons ?_
  refine bl_def (P := 113) (c := 117) (want := wRun) B9 (by simp) hWG X rfl X.c2 (by simp) tq9 (qual := "_law_run.<locals>.let_go") (by kernel_rfl) (.tail _ (.tail _ (.tail _ (.head _)))) (by decide +kernel) (clos := [("held", L + 2)]) (by rfl) (fun f4 h10 tk10 B10 q10 tq10 k10 n10 w10 => ?_)
  have rm10 := (rm9.kpd k10 h113 rl).consF (f := f4) (st := innS 6 4) (n := "let_go") q10 w10
  refine wpAny_execs_cons ?_
  refine wpAny_Assign_Name ?_
  refine PyProof.Rows.Constant_bool ?_
  refine bl_store (s := { s with heap := h10, toks := tk10 }) B10 (fun h11 B11 k11 => ?_)
  have kd11 : KpD [] h10 h11 := kpd_store B10.fr.ns k11
  have rm11 := rm10.kpd kd11 (fun b hb => by cases hb) rl
  have tq11 : TabQ wRun 113 h11 := tq10.kpd kd11 (by simp) (by simp)
  refine wpAny_execs_cons ?_
  refine wpAny_Try_except ?_
  refine wpAny_execs_cons ?_
  refine wpAny_Expr ?_
  refine MethodCall_ ?_
  refine Call_ ?_
  refine nameX_K B11.fr X.X T' (v := .ref 93) (by kernel_rfl) ?_
  refine callWith_K (h₀ := G) X.X (by kernel_rfl) ?_
  refine args_cons ?_
  refine nameX_L B11.fr rfl ?_
  refine args_cons ?_
  refine nameX_L B11.fr rfl ?_
  refine args_cons ?_
  refine nameX_L B11.fr rfl ?_
  refine args_cons ?_
  refine nameX_L B11.fr rfl ?_
  refine args_cons ?_
  refine nameX_L B11.fr rfl ?_
  refine args_nil ⟨X.X.keeps B11.fr.keep, ?_⟩
  refine make_qs (X.X.keeps B11.fr.keep) (T'.nolimit.keeps B11.fr.keep) (by have := B11.dp; lia) (fun x dx es nn h12 tk12 k12 nx ndx ex edx g1 g2 g3 g4 g5 g6 => ?_)
  have B12 := B11.grow k12
  have rm12 := rm11.kpd (KpD.of (V := []) k12) (fun b hb => by cases hb) rl
  have tq12 : TabQ wRun 113 h12 := tq11.keeps k12
  -- the ground of the sorting
  generalize hc : (⟨aP, aS, aH, aK, aO⟩ : Pl) = c
  have cW : c.W = [aP, aS, aH, aK, aO] := by rw [← hc]; rfl
  generalize hFs : outer.filterMap (·.frame) = Fs
  have rmP := (List.forall_mem_cons.mp rm11.1).1
  have rmR := (List.forall_mem_cons.mp (List.forall_mem_cons.mp rm11.1).2).2
  have rS := (List.forall_mem_cons.mp rmR).1
  have rmR := (List.forall_mem_cons.mp rmR).2
  have rH := (List.forall_mem_cons.mp rmR).1
  have rmR := (List.forall_mem_cons.mp rmR).2
  have rK := (List.forall_mem_cons.mp rmR).1
  have rO := (List.forall_mem_cons.mp (List.forall_mem_cons.mp rmR).2).1
  have lists : ∀ b ∈ c.W, ∃ its, h12.PlainList b its := by
    rw [cW]
    exact all5 ⟨_, rmP.at (k12 _)⟩ ⟨_, rS.at (k12 _)⟩ ⟨_, rH.at (k12 _)⟩ ⟨_, rK.at (k12 _)⟩ ⟨_, rO.at (k12 _)⟩
  have lists11 : ∀ b ∈ c.W, ∃ o, h11.get? b = some o := by
    rw [cW]
    exact all5 (plain_some rmP) (plain_some rS) (plain_some rH) (plain_some rK) (plain_some rO)
  have hcG : ∀ b ∈ c.W, G.get? b = none := fun b hb => by
    rw [cW] at hb
    rcases List.mem_cons.mp hb with rfl | hb
    · exact B12.gl _ (Nat.le_of_lt l5)
    · exact (P0.off b (.tail _ hb)).1
  have hfr : ∀ b ∈ L :: Fs, (∃ n, h12.Ns b n) ∧ G.get? b = none := fun b hb => by
    rcases List.mem_cons.mp hb with rfl | hb
    · exact ⟨⟨_, B12.fr.ns⟩, B12.gl _ (Nat.le_refl _)⟩
    · rw [← hFs] at hb; exact ⟨(FFr.off B12.ff hb).2.2, (FFr.off B12.ff hb).1⟩
  have hfr11 : ∀ b ∈ L :: Fs, ∃ o, h11.get? b = some o := fun b hb => by
    rcases List.mem_cons.mp hb with rfl | hb
    · obtain ⟨o, es, ep, e, _⟩ := B11.fr.ns; exact ⟨o, e⟩
    · rw [← hFs] at hb; obtain ⟨_, _, _, o, es, ep, e, _⟩ := FFr.off B11.ff hb; exact ⟨o, e⟩
  have inGs : ∀ b o, h12.get? b = some o → b ∉ c.W → b ∉ L :: Fs → (hideAll h12 (c.W ++ (L :: Fs))).get? b = some o := fun b o e n1 n2 => hideAll_get _ e fun q => (List.mem_append.mp q).elim n1 n2
  have inGs' : ∀ b o, h12.get? b = some o → (∀ vs n, o.data ≠ .seq vs n) → (∀ es n, o.data ≠ .dict es n) → (hideAll h12 (c.W ++ (L :: Fs))).get? b = some o := fun b o e d1 d2 => inGs b o e (fun q => by
      obtain ⟨its, n, e2⟩ := lists b q
      rw [e] at e2; cases e2; exact d1 _ _ rfl) (fun q => by
      obtain ⟨⟨n, o', es, ep, e2, d, _⟩, _⟩ := hfr b q
      rw [e] at e2; cases e2; exact d2 _ _ d)
  have gs : G.StaysIn (hideAll h12 (c.W ++ (L :: Fs))) := fun b o e => inGs b o (B12.fr.keep b o e) (fun q => by rw [hcG b q] at e; cases e) (fun q => by rw [(hfr b q).2] at e; cases e)
  have hidW : ∀ a ∈ c.W, (hideAll h12 (c.W ++ (L :: Fs))).get? a = none := fun a ha => hideAll_none _ (List.mem_append_left _ ha)
  have hidF : ∀ a ∈ L :: Fs, (hideAll h12 (c.W ++ (L :: Fs))).get? a = none := fun a ha => hideAll_none _ (List.mem_append_right _ ha)
  have back : (hideAll h12 (c.W ++ (L :: Fs))).StaysIn h12 := fun b o e => of_hideAll _ e
  have szs : (hideAll h12 (c.W ++ (L :: Fs))).objs.size ≤ h12.objs.size := Nat.le_of_eq (hideAll_size _ _)
  generalize hGs : hideAll h12 (c.W ++ (L :: Fs)) = Gs at inGs inGs' gs hidW hidF back szs
  have nd : c.W.Nodup := by
    rw [cW, List.nodup_cons]
    have h0 : h₀.get? aP = none := B12.new _ (Nat.le_of_lt l5)
    exact ⟨fun q => all4 (p := fun y => aP ≠ y) (plain_ne P0.S h0) (plain_ne P0.H h0) (plain_ne P0.K h0) (plain_ne po h0) _ q rfl, (List.nodup_cons.mp P0.nd).2⟩
  have fnq : ∀ {f : Addr} {st : Stmt} {n q : Str} {cl : List (Str × Addr)}, FnQ h12 f st n q cl → FnIs Gs f st n q cl := fun {f st n q cl} z => by
    obtain ⟨c', doc, pm, ctv, z1, ⟨c₂, oc, vs, t, y1, y2, y3, y4⟩, _⟩ := z
    exact ⟨c', doc, pm, ctv, inGs' _ _ z1 (fun _ _ q => by cases q) (fun _ _ q => by cases q), c₂, oc, vs, t, y1, inGs' _ _ y2 (fun _ _ q => by rw [y3] at q; cases q) (fun _ _ q => by rw [y3] at q; cases q), y3, y4⟩
  have cellq : ∀ {b : Addr} {v : Option Value}, h12.IsCell b v → Gs.IsCell b v := fun {b v} ⟨o, e, d⟩ => ⟨o, inGs' _ _ e (fun _ _ q => by rw [d] at q; cases q) (fun _ _ q => by rw [d] at q; cases q), d⟩
  have Q1 := fnq (rm12.2 _ (.tail _ (.tail _ (.tail _ (.head _))))).1
  have Q2 := fnq (rm12.2 _ (.tail _ (.tail _ (.head _)))).1
  have Q3 := fnq (rm12.2 _ (.tail _ (.head _))).1
  have Q4 := fnq (rm12.2 _ (.head _)).1
  have C1 := cellq (B12.cl.cell "seen" (L + 1) (by rfl))
  have C2 := cellq (B12.cl.cell "held" (L + 2) (by rfl))
  have C3 := cellq (B12.cl.cell "kept" (L + 3) (by rfl))
  have C4 := cellq (B12.cl.cell "places" (L + 4) (by rfl))
  have k0 : ∀ b o, h₀.get? b = some o → (∀ es n, o.data ≠ .dict es n) → b ∉ Wt → b ∉ [aS, aH, aK, aO] → h12.get? b = some o := fun b o e d hw hv => KpD.of_kpl B12.kp B12.f0 b o (fun q => by
      rcases List.mem_append.mp (show b ∈ [aS, aH, aK, aO] ++ [113] from q) with q | q
      · exact hv q
      · exact hw (by rw [List.mem_singleton.mp q]; simp)) d e
  have keep5 : Keep5 h₀ Gs c := fun b o e d hw hs => by
    have hv : b ∉ [aS, aH, aK, aO] := fun q => by
      have q' : b ∈ c.W := by rw [cW]; exact .tail _ q
      exact hs (all4 (p := fun y => h₀.get? y = some o → ∃ vs n, o.data = .seq vs n) (plain_seq P0.S) (plain_seq P0.H) (plain_seq P0.K) (plain_seq po) b q e) q'
    have e12 := k0 b o e d hw hv
    refine inGs b o e12 (fun q => ?_) (fun q => ?_)
    · rw [cW] at q
      rcases List.mem_cons.mp q with rfl | q
      · rw [B12.new _ (Nat.le_of_lt l5)] at e; cases e
      · exact hv q
    · obtain ⟨⟨n, o', es, ep, e2, d2, _⟩, _⟩ := hfr b q
      rw [e12] at e2; cases e2; exact d _ _ d2
  have less := P0.less Gs c (by rw [← hc]) nd hidW gs keep5 (fun d hd q => by
    rw [cW] at q
    rcases List.mem_cons.mp q with rfl | q
    · exact (P0.D _ hd).2 (B12.new _ (Nat.le_of_lt l5))
    · exact (P0.D d hd).1 q)
  have fless : FnAt fl Gs := by
    obtain ⟨oc, od, fd, sl, e⟩ := P0.fn
    have d : ∀ vs n, Data.func fd ≠ .seq vs n := fun _ _ q => by cases q
    exact ⟨oc, od, fd, sl, inGs' _ _ (k0 _ _ e (fun _ _ q => by cases q) P0.fnW (fun q => all4 (p := fun y => fl ≠ y) (plain_no P0.S e d) (plain_no P0.H e d) (plain_no P0.K e d) (plain_no po e d) _ q rfl)) d (fun _ _ q => by cases q)⟩
  have xW : ∀ {y : Addr}, h11.get? y = none → y ∉ c.W ∧ y ∉ L :: Fs := fun {y} hy => ⟨fun q => (by obtain ⟨o, e⟩ := lists11 y q; rw [hy] at e; cases e), fun q => (by obtain ⟨o, e⟩ := hfr11 y q; rw [hy] at e; cases e)⟩
  have TG : ∃ p loose mg mb, TopRead p loose mg mb Gs := ⟨_, _, _, _, T'.keeps gs⟩
  have S : Qs w Gs x f1 f2 fl f3 f4 := ⟨X.X.keeps gs, TG, ⟨instObj 93 dx, es, nn, ⟨inGs _ _ ex (xW nx).1 (xW nx).2, rfl, rfl, inGs _ _ edx (xW ndx).1 (xW ndx).2⟩, g1, g2, g3, g4, g5, g6⟩, Q1.fn, Q2.fn, fless, Q3.fn, Q4.fn⟩
  have nl : Gs.NoLimit := T'.nolimit.keeps gs
  subst hc
  have Cc : Cs prog w Gs ⟨aP, aS, aH, aK, aO⟩ orel tl f1 f2 fl f3 f4 := ⟨fun i t => read_meets nl hidW nd Q1 (by rfl) (by rfl) C4 C1 i t, fun i t v => write_meets nl hidW nd Q2 (by rfl) (by rfl) C4 C1 i t v, less, fun a => keep_meets nl hidW nd Q3 (by rfl) (by rfl) C2 C3 a, drop_meets nl hidW nd Q4 (by rfl) C2⟩
  refine gm_meth S.X back S.sort ?_
  refine callWith_F (q := 90) (first := [.ref x]) ⟨_, _, _, _, B12.fr.keep _ _ (X.X 90 _ (by rfl))⟩ ?_
  refine args_cons ?_
  refine wpAny_Constant_int ?_
  refine args_cons ?_
  refine Call_ ?_
  refine nameX_B B12.fr X.X T' (by kernel_rfl) boot_len (by decide) ?_
  refine PyProof.Rows.callWith_builtin1 ?_
  refine args_cons ?_
  refine nameX_L B12.fr rfl ?_
  refine args_nil ?_
  refine call_len_list ((List.forall_mem_cons.mp (List.forall_mem_cons.mp rm12.1).2).1).isList (by rw [List.size_toArray]; lia) ?_
  refine args_nil ⟨⟨_, _, _, _, B12.fr.keep _ _ (X.X 90 _ (by rfl))⟩, ?_⟩
  have elen : ((ivs.toArray.size : Nat) : Int) = (ns.length : Int) := by rw [List.size_toArray, P0.xs.length]
  rw [elen]
  have aPW : aP ∉ Wt := fun z => Nat.lt_irrefl _ (Nat.lt_trans l5 (lowL _ z))
  have softW : Soft [aS, aH, aK, aO, 113] L [aP, aS, aH, aK, aO] h12 := fun b hb => by
    rcases List.mem_cons.mp hb with rfl | hb
    · exact .inr ⟨l5, soft_plain (rmP.at (k12 _))⟩
    · refine .inl ?_
      simp only [List.mem_cons, List.not_mem_nil, or_false] at hb ⊢
      rcases hb with hb | hb | hb | hb <;> simp [hb]
  have n113 : (113 : Addr) ∉ [aP, aS, aH, aK, aO] := fun q => by
    obtain ⟨ps, e, _⟩ := tq12
    obtain ⟨its, n, e2⟩ := lists 113 q
    rw [e] at e2; cases e2
  have vW : ∀ b ∈ [aP, aS, aH, aK, aO], b ∈ Wt ∨ ∀ o vs, h12.get? b = some o → o.data ≠ .fields vs := fun b hb => .inr fun o vs e d => by
    obtain ⟨its, n, e2⟩ := lists b hb
    rw [e] at e2; cases e2; cases d
  have hLc : L ∉ [aP, aS, aH, aK, aO] := fun q => by
    obtain ⟨its, p⟩ := lists L q
    exact ns_ne_list B12.fr.ns p rfl
  have okS : Ok Gs [aP, aS, aH, aK, aO] A (envRun L :: outer) h12 (70 + k) (500 + 10 * k) := by
    have ok := B12.ok
    refine ⟨ok.fr, ok.hd, ok.dp, ok.un, ?_, szs⟩
    have turn : ∀ {l : List Env}, FFr G [aS, aH, aK, aO, 113] h12 l → (∀ b ∈ l.filterMap (·.frame), b ∈ L :: Fs) → FFr Gs [aP, aS, aH, aK, aO] h12 l := by
      intro l
      induction l with
      | nil => intro _ _; trivial
      | cons e r ih =>
        rintro ⟨a1, ⟨L', m', b1, b2, b3, b4⟩, r'⟩ hin
        have hL' : L' ∈ L :: Fs := hin L' (by rw [List.filterMap_cons, b1]; exact .head _)
        refine ⟨a1, ⟨L', m', b1, hidF _ hL', fun q => ?_, b4⟩, ih r' fun b hb => hin b (by rw [List.filterMap_cons, b1]; exact .tail _ hb)⟩
        obtain ⟨its, p⟩ := lists L' q
        exact ns_ne_list b4 p rfl
    refine turn ok.ff fun b hb => ?_
    rw [List.filterMap_cons] at hb
    rcases List.mem_cons.mp hb with rfl | hb
    · exact .head _
    · exact .tail _ (hFs ▸ hb)
  refine wpAny_call (sort_meets S Cc hidW n k 1 ns.length _ _ A (envRun L :: outer) _ (sg0 ivs O₀ tb te) _ (fun _ => Qp) Ep (okS.le (by lia) (by lia)) back ?_ (Hs tb te) (fun _ v σ' h' tk q r g ru kp => ?_) (fun e σ' h' tk q fl => ?_))
  · refine ⟨rmP.at (k12 _), ⟨[], rS.at (k12 _), .nil⟩, rH.at (k12 _), rK.at (k12 _), ⟨vo, rO.at (k12 _), ho⟩, ?_, Nat.zero_le _, Nat.zero_le _, Nat.zero_le _, ?_, (fun v hv => by cases hv), P0.Ol⟩
    · show (_ :: (ivs ++ [_])).length ≤ 1000
      rw [List.length_cons, List.length_append]
      show ivs.length + 1 + 1 ≤ 1000
      lia
    · intro v hv
      rcases List.mem_cons.mp hv with rfl | hv
      · exact .inr (.inl ⟨_, rfl⟩)
      · rcases List.mem_append.mp hv with hv | hv
        · exact ints_ok P0.xs v hv
        · rw [List.mem_singleton.mp hv]; exact .inr (.inr ⟨_, rfl⟩)
  · have kl : KpL (L :: outer.filterMap (·.frame)) [aP, aS, aH, aK, aO] h12 h' := KpL.of_kp kp
    have Bz := B12.softly _ softW hWG kl
    have rv : v = .none := r
    subst rv
    dsimp only
    refine wpAny_execs_nil ?_
    refine wpAny_execs_nil ?_
    exact run_tail (s := { s with heap := h', toks := tk }) (b := true) Bz rfl rfl l5 ru q (tq12.kpd (KpD.of_kp kp) n113 vW) hQ
  · have fr12 := B12.fr
    refine caught (s := { s with heap := h', toks := tk }) (c := ⟨aP, aS, aH, aK, aO⟩) (σ := σ') X.X T' gs fr12 B12.stack hLc fl (fun h13 ru sl kp st13 => ?_)
    have kl : KpL (L :: outer.filterMap (·.frame)) [aP, aS, aH, aK, aO] h12 h13 := ⟨kp, sl⟩
    have Bz := B12.softly _ softW hWG kl
    have kdz : KpD [aP, aS, aH, aK, aO] h12 h13 := KpD.of_kpl kl fun b hb => (hfr b (hFs ▸ hb)).1
    refine wpAny_execs_cons ?_
    refine wpAny_Assign_Name ?_
    refine PyProof.Rows.Constant_bool ?_
    refine bl_store (s := { s with heap := h13, toks := tk }) Bz (fun h14 B14 k14 => ?_)
    have kd14 : KpD [] h13 h14 := kpd_store Bz.fr.ns k14
    refine wpAny_execs_nil ?_
    refine run_tail (s := { s with heap := h14, toks := _ }) (b := false) B14 rfl rfl l5 (ru.keeps fun b hb o e => k14 b o (fun z => hLc (List.mem_singleton.mp z ▸ hb)) e) q ((tq12.kpd kdz n113 vW).kpd kd14 (by simp) (by simp)) hQ
end
end Mine
end

section
open PySem PySem.W PySem.Calls PyProof.Rows PySem.Spec PySem.SeqAt PyProof.V
set_option Elab.async false
set_option maxRecDepth 100000
namespace Mine

theorem Keep5.fn {h Gs : Heap} {c : Pl} (k : Keep5 h Gs c) {f : Addr} {st : Stmt} {n q : Str} {cl : List (Str × Addr)} (x : FnQ h f st n q cl) (hf : f ∉ Wt) : FnIs Gs f st n q cl := by
  refine hide fun gl9 hg9 => ?_
  obtain ⟨c', doc, pm, ctv, z1, ⟨c₂, oc, vs, t, y1, y2, y3, y4⟩, hc⟩ := x
  refine hg9 ?_
  clear hg9 gl9
  cases y1
  exact ⟨c', doc, pm, ctv, k _ _ z1 (fun _ _ q => by cases q) hf (fun ⟨_, _, q⟩ => by cases q), _, oc, vs, t, rfl, k _ _ y2 (fun _ _ q => by rw [y3] at q; cases q) hc (fun ⟨_, _, q⟩ => by rw [y3] at q; cases q), y3, y4⟩
theorem Keep5.cell {h Gs : Heap} {c : Pl} (k : Keep5 h Gs c) {b : Addr} {v : Option Value} (x : h.IsCell b v) (hb : b ∉ Wt) : Gs.IsCell b v :=
  let ⟨o, e, d⟩ := x; ⟨o, k _ _ e (fun _ _ q => by rw [d] at q; cases q) hb (fun ⟨_, _, q⟩ => by rw [d] at q; cases q), d⟩
theorem Keep5.plain {h Gs : Heap} {c : Pl} (k : Keep5 h Gs c) {b : Addr} {its : Array Value} (x : h.PlainList b its) (hb : b ∉ Wt) (hc : b ∉ c.W) : Gs.PlainList b its :=
  let ⟨n, e⟩ := x; ⟨n, k _ _ e (fun _ _ q => by cases q) hb (fun _ => hc)⟩
theorem Keep5.back {h h' Gs : Heap} {c : Pl} {U : List Addr} (k : Keep5 h' Gs c) (x : KpD U h h') (hU : ∀ b ∈ U, b ∈ Wt ∨ (∃ its, h.PlainList b its) ∧ b ∈ c.W) : Keep5 h Gs c := fun b o e d hw hs => k b o (x b o (fun q => (hU b q).elim hw fun ⟨⟨its, n, e2⟩, hc⟩ => by rw [e] at e2; cases e2; exact hs ⟨_, _, rfl⟩ hc) d e) d hw hs

theorem LessAt.keeps {prog : Program} {w : World} {G h h' : Heap} {aO : Addr} {D : List Addr} {fl : Addr} {orel : ORel} {tl : Value → Value → Tr Bool} (x : LessAt prog w G h aO D fl orel tl) (k : KpD Wt h h') : LessAt prog w G h' aO D fl orel tl :=
  fun Gs c h1 h2 h3 h4 h5 h6 => x Gs c h1 h2 h3 h4 (h5.back k fun b hb => .inl hb) h6

abbrev wTold : List (Pos × Str) := [(sPos (innS 7 1), "_law_told.<locals>.by_row")]
abbrev wLess : List (Pos × Str) := [(sPos (innS 5 1), "_law_less.<locals>.up"), (sPos (innS 5 2), "_law_less.<locals>.down"), (sPos (innS 5 3), "_law_less.<locals>.by_rest"), (sPos (innS 5 4), "_law_less.<locals>.by_chance")]

section
variable {prog : Program} {w : World} {G : Heap} {A : Around} {outer : List Env} {h₀ h h' : Heap} {E : Value → Shared → Prop} {s : Shared}

def ToldPost (prog : Program) (w : World) (G : Heap) (bs : List Bool) (h : Heap) (v : Value) (h' : Heap) : Prop :=
  ∃ fl aO, v = .ref fl ∧ FnAt fl h' ∧ fl ∉ Wt ∧ h'.PlainList aO (bs.map Value.bool).toArray ∧ h.objs.size ≤ aO ∧ G.get? aO = none ∧ aO ∉ Wt ∧ LessAt prog w G h' aO [] fl oRow tlRow ∧ TabQ wTold 120 h'

set_option maxHeartbeats 4000000 in
theorem told_meetsL (X : LG w G) {aR : Addr} {bs : List Bool} (hlen : bs.length ≤ 1000) :
    MeetsL prog w G [120] 21 23 (.ref 125) [.ref aR] (fun _ h => h.PlainList aR (bs.map Value.bool).toArray ∧ TabQ wTold 120 h) (fun _ h v h' => ToldPost prog w G bs h v h') := by
  refine hide fun gl9 hg9 => ?_
  obtain ⟨p, loose, mean, mg, mb, T⟩ := X.T
  refine hg9 ?_
  clear hg9 gl9
  refine meetsL_fnC (dep := 20) (un := 20) (f := 125) (binds := [("row", .ref aR)]) T.nolimit (fun fs h P hs b hb => ?_) (X.X _ _ (by rfl)) rfl (codeRec_of X.X (by kernel_rfl)) rfl (kindsX (by rfl)) rfl rfl rfl _ _ rfl rfl ?_
  · obtain ⟨_, ps, e, _⟩ := P
    rw [List.mem_singleton.mp hb]; exact Heap.lt_size e
  intro A outer L h₀ s Qb Eb B P0 st hQ hP
  have T' := topRead_of T
  have hWG : ∀ b ∈ [120], G.get? b = none := fun b hb => by rw [List.mem_singleton.mp hb]; exact X.hid _ (by simp)
  dsimp only at B hP ⊢
  obtain ⟨P1, P2⟩ := P0
  have lowX : ∀ x, L ≤ x → ∀ b ∈ Wt, x ≠ b := fun x hx b hb q => Nat.lt_irrefl _ (Nat.lt_of_lt_of_le (X.sz b hb) (Nat.le_trans B.fr.above (q ▸ hx)))
  have lowW : ∀ x, L ≤ x → x ∉ Wt := fun x hx q => lowX x hx x q rfl
  refine wpAny_execs_cons ?_
  refine wpAny_Assign_Name ?_
  refine Call_ ?_
  refine nameX_B B.fr X.X T' (by kernel_rfl) PyProof.Rows.boot_list (by decide) ?_
  refine PyProof.Rows.callWith_type1 ?_
  refine args_cons ?_
  refine nameX_L B.fr rfl ?_
  refine args_nil ?_
  refine bl_copy B (P1.at (st _)).isList (by rw [List.length_map]; lia) (fun t1 h1 B1 p1 k1 l1 _ => ?_)
  have hcell := B1.cl.cell "left" (L + 1) (by rfl)
  refine bl_storeC B1 (c := L + 1) (by rfl) (fun h2 B2 k2 => ?_)
  have p2 := KpD.plain (KpD.of_kp k2) (fun q => cell_ne_list hcell p1 (List.mem_singleton.mp q).symm) p1
  have tq1 : TabQ wTold 120 h1 := P2.keeps fun b o e => k1 _ _ (st _ _ e)
  have tq2 : TabQ wTold 120 h2 := tq1.kpd (KpD.of_kp k2) (fun q => lowX (L + 1) (Nat.le_succ L) 120 (by simp) (List.mem_singleton.mp q).symm) (soft2_cell hcell).v
  refine wpAny_execs_cons ?_
  refine bl_def (P := 120) (c := 124) (want := wTold) B2 (by simp) hWG X rfl X.c1 (by simp) tq2 (qual := "_law_told.<locals>.by_row") (by kernel_rfl) (.head _) (by decide +kernel) (clos := [("left", L + 1)]) (by rfl) (fun f1 h3 tk3 B3 q3 tq3 k3 n3 w3 => ?_)
  have p3 := k3.plain (fun q => lowX t1 (Nat.le_of_lt l1) 120 (by simp) (List.mem_singleton.mp q)) p2
  have q3' : FnQ h3 f1 (innS 7 1) "by_row" "_law_told.<locals>.by_row" [("left", L + 1)] := q3
  refine wpAny_execs_cons ?_
  refine wpAny_Return_some ?_
  refine nameX_L B3.fr rfl ?_
  refine hQ (.ret (.ref f1)) h3 _ B3.fr.keep B3.kp ⟨f1, t1, rfl, q3'.is.fn, w3, p3, Nat.le_trans B3.sz0 (Nat.le_of_lt l1), B3.gl _ (Nat.le_of_lt l1), lowW t1 (Nat.le_of_lt l1), ?_, tq3⟩
  intro Gs c hc nd hW gs k5 _ a b
  have hcell3 : h3.IsCell (L + 1) (some (.ref c.aO)) := by rw [hc]; exact B3.cl.cell "left" (L + 1) (by rfl)
  exact row_meets (T'.nolimit.keeps gs) hW nd (k5.fn q3' w3) (by rfl) (k5.cell hcell3 (lowW _ (Nat.le_succ L))) a b

def AnsPost (G : Heap) (h : Heap) (v : Value) (h' : Heap) : Prop :=
  ∃ (t : Addr) (bs : List Bool), v = .ref t ∧ h'.PlainList t (bs.map Value.bool).toArray ∧ 0 < bs.length ∧ bs.length ≤ 1000 ∧ h.get? t = none ∧ G.get? t = none ∧ t ∉ Wt

inductive KindIs : Int → ORel → (Value → Value → Tr Bool) → List Bool → Prop
  | up : KindIs 0 oAny (tlLt fun i j => decide (i < j)) []
  | down : KindIs 1 oAny (tlLt fun i j => decide (j < i)) []
  | rest : KindIs 2 oAny (tlLt fun i j => decide (i.fmod 4 < j.fmod 4)) []
  | chance (tb : List Bool) : KindIs 3 (oChance tb) tlChance (future tb 0)

def LessPost (prog : Program) (w : World) (G : Heap) (kind : Int) (aO : Addr) (h : Heap) (v : Value) (h' : Heap) : Prop :=
  ∃ fl D orel tl O₀, v = .ref fl ∧ KindIs kind orel tl O₀ ∧ FnAt fl h' ∧ fl ∉ Wt ∧ LessAt prog w G h' aO D fl orel tl ∧ (∀ d ∈ D, h.get? d = none ∧ h'.get? d ≠ none) ∧ TabQ wLess 106 h'

set_option maxHeartbeats 4000000 in
theorem less_meetsL (X : LG w G) {aX aO : Addr} {xs : List Value} {kind : Int} {tk : Tok} (hk : 0 ≤ kind ∧ kind ≤ 3) (hx : G.IsList aX xs.toArray)
    (ans : MeetsL prog w G [] 40 60 (.ref 104) [.ref aX] (fun _ _ => True) (fun _ h v h' => AnsPost G h v h')) :
    MeetsL prog w G [106] 42 63 (.ref 111) [.ref aX, .int kind tk, .ref aO] (fun _ h => TabQ wLess 106 h) (fun _ h v h' => LessPost prog w G kind aO h v h') := by
  refine hide fun gl9 hg9 => ?_
  obtain ⟨p, loose, mean, mg, mb, T⟩ := X.T
  refine hg9 ?_
  clear hg9 gl9
  refine meetsL_fnC (dep := 41) (un := 60) (f := 111) (binds := [("script", .ref aX), ("kind", .int kind tk), ("step", .ref aO)]) T.nolimit (fun fs h P hs b hb => ?_) (X.X _ _ (by rfl)) rfl (codeRec_of X.X (by kernel_rfl)) rfl (kindsX (by rfl)) rfl rfl rfl _ _ rfl rfl ?_
  · obtain ⟨ps, e, _⟩ := P
    rw [List.mem_singleton.mp hb]; exact Heap.lt_size e
  intro A outer L h₀ s Qb Eb B P0 st hQ hP
  have T' := topRead_of T
  have hWG : ∀ b ∈ [106], G.get? b = none := fun b hb => by rw [List.mem_singleton.mp hb]; exact X.hid _ (by simp)
  dsimp only at B hP ⊢
  have lowX : ∀ x, L ≤ x → ∀ b ∈ Wt, x ≠ b := fun x hx b hb q => Nat.lt_irrefl _ (Nat.lt_of_lt_of_le (X.sz b hb) (Nat.le_trans B.fr.above (q ▸ hx)))
  have lowW : ∀ x, L ≤ x → x ∉ Wt := fun x hx q => lowX x hx x q rfl
  refine wpAny_execs_cons ?_
  refine wpAny_Assign_Name ?_
  refine Call_ ?_
  refine nameX_K B.fr X.X T' (v := .ref 104) (by kernel_rfl) ?_
  refine callWith_K (h₀ := G) X.X (by kernel_rfl) ?_
  refine args_cons ?_
  refine nameX_L B.fr rfl ?_
  refine args_nil ⟨X.X.keeps B.fr.keep, ?_⟩
  refine bl_callV ans B (fun b hb => by cases hb) hWG (by lia) (by lia) trivial (fun v h1 tk1 B1 q1 _ k1 => ?_)
  refine hide fun gl9 hg9 => ?_
  obtain ⟨aT, tb, rfl, pT, tpos, tlen, nT, gT, wT⟩ := q1
  refine hg9 ?_
  clear hg9 gl9
  have lT : ∃ o, h1.get? aT = some o := let ⟨n, e⟩ := pT; ⟨_, e⟩
  have hTL : h₀.get? aT = none := by
    cases q : h₀.get? aT with
    | none => rfl
    | some o => rw [st _ _ q] at nT; cases nT
  have tq1 : TabQ wLess 106 h1 := (P0.keeps st).kpd k1 (by simp) (by simp)
  -- told
  have hcell := B1.cl.cell "told" (L + 2) (by rfl)
  refine bl_storeC (s := { s with heap := h1, toks := tk1 }) B1 (c := L + 2) (by rfl) (fun h2 B2 k2 => ?_)
  have p2 := KpD.plain (KpD.of_kp k2) (fun q => cell_ne_list hcell pT (List.mem_singleton.mp q).symm) pT
  have tq2 : TabQ wLess 106 h2 := tq1.kpd (KpD.of_kp k2) (fun q => lowX (L + 2) (Nat.le_add_right _ _) 106 (by simp) (List.mem_singleton.mp q).symm) (soft2_cell hcell).v
  have rl : ∀ q ∈ ([(aT, (tb.map Value.bool).toArray)] : List (Addr × Array Value)), q.1 ∉ Wt := fun q hq => by rw [List.mem_singleton.mp hq]; exact wT
  have h106 : ∀ {h : Heap}, Soft2 [106] h := soft2_tab (by simp)
  have rm2 : RM [(aT, (tb.map Value.bool).toArray)] [] h2 := ⟨fun q hq => by rw [List.mem_singleton.mp hq]; exact p2, fun f hf => by cases hf⟩
  refine wpAny_execs_cons ?_
  refine bl_def (P := 106) (c := 110) (want := wLess) B2 (by simp) hWG X rfl X.c3 (by simp) tq2 (qual := "_law_less.<locals>.up") (by kernel_rfl) (.head _) (by decide +kernel) (clos := []) (by rfl) (fun f1 h3 tk3 B3 q3 tq3 k3 n3 w3 => ?_)
  have rm3 := (rm2.kpd k3 h106 rl).consF (f := f1) (st := innS 5 1) (n := "up") q3 w3
  refine wpAny_execs_cons ?_
  refine bl_def (P := 106) (c := 110) (want := wLess) B3 (by simp) hWG X rfl X.c3 (by simp) tq3 (qual := "_law_less.<locals>.down") (by kernel_rfl) (.tail _ (.head _)) (by decide +kernel) (clos := []) (by rfl) (fun f2 h4 tk4 B4 q4 tq4 k4 n4 w4 => ?_)
  have rm4 := (rm3.kpd k4 h106 rl).consF (f := f2) (st := innS 5 2) (n := "down") q4 w4
  refine wpAny_execs_cons ?_
  refine bl_def (P := 106) (c := 110) (want := wLess) B4 (by simp) hWG X rfl X.c3 (by simp) tq4 (qual := "_law_less.<locals>.by_rest") (by kernel_rfl) (.tail _ (.tail _ (.head _))) (by decide +kernel) (clos := []) (by rfl) (fun f3 h5 tk5 B5 q5 tq5 k5 n5 w5 => ?_)
  have rm5 := (rm4.kpd k5 h106 rl).consF (f := f3) (st := innS 5 3) (n := "by_rest") q5 w5
  refine wpAny_execs_cons ?_
  refine bl_def (P := 106) (c := 110) (want := wLess) B5 (by simp) hWG X rfl X.c3 (by simp) tq5 (qual := "_law_less.<locals>.by_chance") (by kernel_rfl) (.tail _ (.tail _ (.tail _ (.head _)))) (by decide +kernel) (clos := [("told", L + 2), ("step", L + 1)]) (by rfl) (fun f4 h6 tk6 B6 q6 tq6 k6 n6 w6 => ?_)
  have rm6 := (rm5.kpd k6 h106 rl).consF (f := f4) (st := innS 5 4) (n := "by_chance") q6 w6
  refine wpAny_execs_cons ?_
  refine wpAny_Return_some ?_
  refine Subscript_ ?_
  refine List_ ?_
  refine args_cons ?_
  refine nameX_L B6.fr rfl ?_
  refine args_cons ?_
  refine nameX_L B6.fr rfl ?_
  refine args_cons ?_
  refine nameX_L B6.fr rfl ?_
  refine args_cons ?_
  refine nameX_L B6.fr rfl ?_
  refine args_nil ?_
  refine bl_newList (s := { s with heap := h6, toks := tk6 }) B6 (fun t7 h7 B7 p7 k7 l7 _ => ?_)
  have rm7 := rm6.kpd (KpD.of (V := []) k7) (fun b hb => by cases hb) rl
  have tq7 : TabQ wLess 106 h7 := tq6.keeps k7
  refine nameX_L B7.fr rfl ?_
  have fin : ∀ (fl : Addr) (D : List Addr) (orel : ORel) (tl : Value → Value → Tr Bool) (O₀ : List Bool), KindIs kind orel tl O₀ → FnAt fl h7 → fl ∉ Wt → LessAt prog w G h7 aO D fl orel tl → (∀ d ∈ D, d = aT) → Qb (.ret (.ref fl)) { s with heap := h7, toks := tk6 } := by
    intro fl D orel tl O₀ g1 g2 g3 g4 g5
    refine hQ (.ret (.ref fl)) h7 _ B7.fr.keep B7.kp ⟨fl, D, orel, tl, O₀, rfl, g1, g2, g3, g4, fun d hd => ?_, tq7⟩
    rw [g5 d hd]
    refine ⟨hTL, ?_⟩
    obtain ⟨n, e⟩ := rm7.1 _ (.head _)
    rw [e]; nofun
  have R1 := rm7.2 _ (.tail _ (.tail _ (.tail _ (.head _))))
  have R2 := rm7.2 _ (.tail _ (.tail _ (.head _)))
  have R3 := rm7.2 _ (.tail _ (.head _))
  have R4 := rm7.2 _ (.head _)
  have hkk : kind = 0 ∨ kind = 1 ∨ kind = 2 ∨ kind = 3 := by lia
  refine kba_turn (value' := Expr.Name (PySem.Str.ofString "_") ⟨0, 0, 0, 0⟩) (fun _ => rfl) ?_
  rcases hkk with rfl | rfl | rfl | rfl
  · refine item_listL p7.isList (by decide) (by decide) rfl ?_
    exact fin f1 [] _ _ _ .up R1.1.is.fn R1.2 (fun Gs c hc nd hW gs k5 _ a b => lt_meets (T'.nolimit.keeps gs) hW (k5.fn R1.1 R1.2) a b) (fun _ h => by cases h)
  · refine item_listL p7.isList (by decide) (by decide) rfl ?_
    exact fin f2 [] _ _ _ .down R2.1.is.fn R2.2 (fun Gs c hc nd hW gs k5 _ a b => gt_meets (T'.nolimit.keeps gs) hW (k5.fn R2.1 R2.2) a b) (fun _ h => by cases h)
  · refine item_listL p7.isList (by decide) (by decide) rfl ?_
    exact fin f3 [] _ _ _ .rest R3.1.is.fn R3.2 (fun Gs c hc nd hW gs k5 _ a b => rest_meets (T'.nolimit.keeps gs) hW (k5.fn R3.1 R3.2) a b) (fun _ h => by cases h)
  · refine item_listL p7.isList (by decide) (by decide) rfl ?_
    refine fin f4 [aT] _ _ _ (.chance tb) R4.1.is.fn R4.2 (fun Gs c hc nd hW gs k5 hD a b => ?_) (fun _ h => List.mem_singleton.mp h)
    have c1 : h7.IsCell (L + 1) (some (.ref c.aO)) := by rw [hc]; exact B7.cl.cell "step" (L + 1) (by rfl)
    have c2 : h7.IsCell (L + 2) (some (.ref aT)) := B7.cl.cell "told" (L + 2) (by rfl)
    exact chance_meets (X.X.keeps gs) ⟨_, _, _, _, T'.keeps gs⟩ hW nd (k5.fn R4.1 R4.2) (by rfl) (k5.cell c1 (lowW _ (Nat.le_add_right _ _))) (by rfl) (k5.cell c2 (lowW _ (Nat.le_add_right _ _))) (k5.plain (rm7.1 _ (.head _)) wT (hD _ (.head _))) tpos tlen a b
end
end Mine
end

section
open PySem PySem.W PySem.Calls PyProof.Rows PySem.Spec PySem.SeqAt PyProof.V
set_option Elab.async false
set_option maxRecDepth 100000
namespace Mine
section
variable {prog : Program} {w : World} {G : Heap} {W : List Addr} {A : Around} {outer : List Env} {env : Env} {L a : Addr} {cells : List (Str × Addr)} {h₀ h h' : Heap} {dep un : Nat} {m m' cm : Str → Option Value} {E : Value → Shared → Prop} {s : Shared} {cn : Str} {cs : Scope} {ccd : Value} {cl : List (Str × Addr)}

def Same (s s' : Shared) : Prop := ∃ h' tk, s' = { s with heap := h', toks := tk }
theorem Same.refl : Same s s := ⟨s.heap, s.toks, rfl⟩
theorem Same.trans {s s' s'' : Shared} (x : Same s s') (y : Same s' s'') : Same s s'' := by
  refine hide fun gl9 hg9 => ?_
  obtain ⟨h1, t1, rfl⟩ := x
  refine hg9 ?_
  clear hg9 gl9
  refine hide fun gl9 hg9 => ?_
  obtain ⟨h2, t2, rfl⟩ := y
  refine hg9 ?_
  clear hg9 gl9
  exact ⟨h2, t2, rfl⟩
theorem Same.of {h' : Heap} {tk : Nat} : Same s { s with heap := h', toks := tk } := ⟨h', tk, rfl⟩

/-- an iterator stands at I -/
def IsItr (h : Heap) (I : Addr) : Prop := ∃ o fs, h.get? I = some o ∧ o.data = .fields fs ∧ ∀ q t, fs[1]? ≠ some (.str q t)
theorem IsItr.f {h : Heap} {I : Addr} (x : IsItr h I) : ∃ o fs, h.get? I = some o ∧ o.data = .fields fs := let ⟨o, fs, a, b, _⟩ := x; ⟨o, fs, a, b⟩

theorem Bl.new1 (B : Bl G W A outer env L cells h₀ dep un m cm h) (hWG : ∀ b ∈ W, G.get? b = none) {I : Addr} (hI : L < I) (p : ∃ o, h.get? I = some o ∧ (∀ es n, o.data ≠ .dict es n) ∧ ∀ v, o.data ≠ .cell v) (k : ∀ b o, b ∉ [I] → h.get? b = some o → h'.get? b = some o) : Bl G W A outer env L cells h₀ dep un m cm h' :=
  B.softly [I] (fun b hb => by rw [List.mem_singleton.mp hb]; exact .inr ⟨hI, p⟩) hWG (KpL.of_kp k)

theorem bl_for {x : Str} {px : Pos} {body : List Stmt} {I : Addr} {fp : List Addr} {n : Nat} {P : Nat → Value → Prop} {St : Nat → Heap → Prop} {R : Result → Shared → Prop} (Wk : Walks prog w A I fp [I] n P St) (J : Nat → (Str → Option Value) → Heap → Prop) (U : List Addr) (hWG : ∀ b ∈ W, G.get? b = none)
    (B : Bl G W A outer env L cells h₀ dep un m cm s.heap) (st : St 0 s.heap) (hI : L < I) (hIo : ∀ i h, St i h → IsItr h I) (hfU : ∀ b ∈ fp, b ∉ U) (hfd : ∀ i h, St i h → ∀ b ∈ fp, ∀ o, h.get? b = some o → ∀ es n, o.data ≠ .dict es n)
    (stab : ∀ i m h h', J i m h → IsItr h I → KpD [I] h h' → J i m h') (j0 : J 0 m s.heap)
    (turn : ∀ i v m s', i < n → P i v → J i m s'.heap → Bl G W A outer env L cells h₀ dep un (fun y => if y = x then some v else m y) cm s'.heap → Same s s' →
      wpAny (model prog w) A (execs body env) (fun f s₃ => match f with
        | .next | .cont => ∃ m', Bl G W A outer env L cells h₀ dep un m' cm s₃.heap ∧ J (i + 1) m' s₃.heap ∧ KpD U s'.heap s₃.heap ∧ Same s s₃
        | .brk => False
        | .ret v => R (.ok (.ret v)) s₃) (fun _ _ => False) s')
    (fin : ∀ m s', J n m s'.heap → Bl G W A outer env L cells h₀ dep un m cm s'.heap → Same s s' → KpD (I :: U) s.heap s'.heap → R (.ok .next) s')
    (hx : env.kindOf x = some .local := by rfl) (ht : ∀ v, letOwnedTupleGo (.Name x px) (.ref I) v = pure () := by intro _; rfl) :
    codeAny (model prog w) A (.forLoop (.Name x px) (.ref I) body [] env) R s := by
  refine codeAny_forLoop (fun k s' => ∃ i m, k + i = n ∧ J i m s'.heap ∧ Bl G W A outer env L cells h₀ dep un m cm s'.heap ∧ St i s'.heap ∧ Same s s' ∧ KpD (I :: U) s.heap s'.heap) (fun k s₁ hI' => ?_) n ⟨0, m, by lia, j0, B, st, .refl, .refl⟩ ht
  refine hide fun gl9 hg9 => ?_
  obtain ⟨i, m₁, hki, j, B₁, st₁, same₁, kd₁⟩ := hI'
  refine hg9 ?_
  clear hg9 gl9
  by_cases hin : i < n
  · refine Wk.item i s₁ _ _ hin st₁ (fun v h' tk hP st' hk => ?_)
    have io := hIo i _ st₁
    have B₂ := B₁.new1 hWG hI (soft_fields io.f) hk
    have j₂ := stab i m₁ _ _ j io (KpD.of_kp hk)
    refine wpAny_assign_Name ?_
    refine bl_store (s := { s₁ with heap := h', toks := tk }) B₂ (fun h'' B₃ k₃ => ?_) hx
    have kd₃ : KpD [] h' h'' := kpd_store B₂.fr.ns k₃
    have j₃ := stab i m₁ _ _ j₂ (hIo _ _ st') (kd₃.mono (by simp))
    refine wpAny_noRaise (wpAny_mono (turn i v m₁ { s₁ with heap := h'', toks := tk + 1 } hin hP j₃ B₃ (same₁.trans .of)) (fun f s₃ hf => ?_) fun _ _ z => z.elim)
    have st'' : St (i + 1) h'' := Wk.frame _ _ _ st' fun b hb o e => kd₃ b o (by simp) (hfd _ _ st' b hb o e) e
    rcases f with _ | _ | _ | v'
    all_goals first
      | exact hf.elim
      | exact hf
      | (obtain ⟨m', B', j', kd', same'⟩ := hf
         exact ⟨k - 1, by lia, i + 1, m', by lia, j', B', Wk.frame _ _ _ st'' fun b hb o e => kd' b o (hfU b hb) (hfd _ _ st'' b hb o e) e, same', kd₁.trans (((KpD.of_kp hk).mono (by simp)).trans ((kd₃.mono (by simp)).trans (kd'.mono (fun b hb => .tail _ hb))))⟩)
  · have : i = n := by lia
    subst this
    refine Wk.done s₁ _ _ st₁ (fun h' tk hk => ?_)
    have io := hIo i _ st₁
    refine wpAny_execs_nil ?_
    exact fin m₁ _ (stab i m₁ _ _ j io (KpD.of_kp hk)) (B₁.new1 hWG hI (soft_fields io.f) hk) (same₁.trans .of) (kd₁.trans ((KpD.of_kp hk).mono (by simp)))
end
end Mine
end

section
open PySem PySem.W PySem.Calls PyProof.Rows PySem.Spec PySem.SeqAt PyProof.V
set_option Elab.async false
set_option maxRecDepth 100000
namespace Mine
section
variable {prog : Program} {w : World} {G : Heap} {W : List Addr} {A : Around} {outer : List Env} {env : Env} {L a : Addr} {cells : List (Str × Addr)} {h₀ h h' : Heap} {dep un : Nat} {m m' cm : Str → Option Value} {E : Value → Shared → Prop} {s : Shared} {cn : Str} {cs : Scope} {ccd : Value} {cl : List (Str × Addr)}

theorem upd_ne {x y : Str} {v : Value} (h : y ≠ x) : (fun z => if z = x then some v else m z) y = m y := if_neg h

/-- x[a:b] on a list, the slice object just made -/
theorem bl_slice {value slice : Expr} {l : Addr} {items : List Value} {vl vu : Value} {lo hi : Option Int} {Q : Value → Shared → Prop} (B : Bl G W A outer env L cells h₀ dep un m cm s.heap) (hl : s.heap.IsList l items.toArray) (pl : IsPart vl lo) (pu : IsPart vu hi) (hsz : items.length ≤ 100000)
    (h : ∀ D h', Bl G W A outer env L cells h₀ dep un m cm h' → h'.PlainList D (slicePick items.toArray lo hi none) → s.heap.StaysIn h' → L < D → s.heap.get? D = none → Q (.ref D) { s with heap := h' })
    (hs : subscripted slice false (.ref l) (.ref s.heap.objs.size) = operate [.ref s.heap.objs.size, .ref l] (getItem (.ref l) (.ref s.heap.objs.size)) := by with_unfolding_all rfl)
    (ht : ∀ r, letTemporaryGo value (.ref l) r = pure () := by intro _; with_unfolding_all rfl) :
    wpAny (model prog w) A (subscriptTail value slice (.ref l) (.ref s.heap.objs.size)) Q E { s with heap := s.heap.push { cls := .type "slice", data := .fields #[vl, vu, .none] } } := by
  refine subscriptTail_ops (Heap.IsList.typeIs (s := { s with heap := s.heap.push { cls := .type "slice", data := .fields #[vl, vu, .none] } }) (hl.push _)) list_getitem_lookup
    (wpAny_getItem_list_slice (hl.push _) (Heap.IsSliceOf.new ..) pl pu .none (by simp) ?_ (by rw [List.size_toArray, sizeLine_eq]; lia)) hs ht
  have k : s.heap.StaysIn ((s.heap.push { cls := .type "slice", data := .fields #[vl, vu, .none] }).push { cls := .type "list", data := .seq (slicePick items.toArray lo hi none) }) := fun b o e => Heap.get?_push_of_some _ (Heap.get?_push_of_some _ e)
  have hL := B.fr.ns.lt
  exact h _ _ (B.grow k) ⟨_, Heap.get?_push_size _ rfl⟩ k (Nat.lt_of_lt_of_le hL (by rw [Heap.size_push]; exact Nat.le_succ _)) (Heap.get?_none_of_le (by rw [Heap.size_push]; exact Nat.le_succ _))

theorem walk_list {I ax : Addr} {vs : List Value} (hh : A.handled = none) (hne : ax ≠ I) : Walks prog w A I [I, ax] [I] vs.length (fun i v => vs[i]? = some v) (fun i h => h.IsListIter I ax i ∧ h.IsList ax vs.toArray) := by
  have := Walks.list (prog := prog) (w := w) hh I ax hne vs.toArray
  simpa using this

/-- for x in a list that stays -/
theorem bl_forList {x : Str} {px : Pos} {body : List Stmt} {ax : Addr} {vs : List Value} {R : Result → Shared → Prop} {E' : Value → Shared → Prop} (J : Nat → (Str → Option Value) → Heap → Prop) (U : List Addr) (hWG : ∀ b ∈ W, G.get? b = none)
    (B : Bl G W A outer env L cells h₀ dep un m cm s.heap) (pl : s.heap.IsList ax vs.toArray) (hU : ∀ b ∈ U, b ≠ ax ∧ ∃ o, s.heap.get? b = some o)
    (stab : ∀ I i m h h', J i m h → IsItr h I → KpD [I] h h' → J i m h') (j0 : ∀ h', s.heap.StaysIn h' → J 0 m h')
    (turn : ∀ i v m s', vs[i]? = some v → J i m s'.heap → Bl G W A outer env L cells h₀ dep un (fun y => if y = x then some v else m y) cm s'.heap → Same s s' →
      wpAny (model prog w) A (execs body env) (fun f s₃ => match f with
        | .next | .cont => ∃ m', Bl G W A outer env L cells h₀ dep un m' cm s₃.heap ∧ J (i + 1) m' s₃.heap ∧ KpD U s'.heap s₃.heap ∧ Same s s₃
        | .brk => False
        | .ret v => R (.ok (.ret v)) s₃) (fun _ _ => False) s')
    (fin : ∀ m s', J vs.length m s'.heap → Bl G W A outer env L cells h₀ dep un m cm s'.heap → Same s s' → KpD U s.heap s'.heap → R (.ok .next) s')
    (hx : env.kindOf x = some .local := by rfl) (ht : ∀ I v, letOwnedTupleGo (.Name x px) (.ref I) v = pure () := by intro _ _; rfl) :
    wpAny (model prog w) A (pyIter (.ref ax)) (fun it s₂ => codeAny (model prog w) A (.forLoop (.Name x px) it body [] env) R s₂) E' s := by
  obtain ⟨o, e, hc, n, hd⟩ := id pl
  have hne : ax ≠ s.heap.objs.size := Nat.ne_of_lt (Heap.lt_size e)
  refine wpAny_pyIter_list pl ?_
  have k : s.heap.StaysIn (s.heap.push { cls := .type "list_iterator", data := .fields #[.ref ax, .int 0 0] }) := fun b o e => Heap.get?_push_of_some _ e
  refine bl_for (s := { s with heap := s.heap.push { cls := .type "list_iterator", data := .fields #[.ref ax, .int 0 0] } }) (walk_list B.hd hne) J U hWG (B.grow k) ⟨⟨_, Heap.get?_push_size _ rfl, rfl, rfl⟩, pl.push _⟩ B.fr.ns.lt (fun i h st => let ⟨o, a, _, c⟩ := st.1; ⟨o, _, a, c, fun q t z => (by simp at z)⟩) (fun b hb q => ?_) (fun i h st b hb o' e' es n q => ?_) (stab _) (j0 _ k) (fun i v m s' _ hv j B' same => turn i v m s' hv j B' ?_) (fun m s' j B' same kd => fin m s' j B' ?_ (fun b o hb d e => kd b o (fun q => (List.mem_cons.mp q).elim (fun q => (by rw [q, Heap.get?_none_of_le (Nat.le_refl _)] at e; cases e)) hb) d (k _ _ e))) hx (ht _)
  · obtain ⟨q1, o', e'⟩ := hU b q
    rcases List.mem_cons.mp hb with rfl | hb
    · rw [Heap.get?_none_of_le (Nat.le_refl _)] at e'; cases e'
    · exact q1 (List.mem_singleton.mp hb)
  · rcases List.mem_cons.mp hb with rfl | hb
    · obtain ⟨⟨o'', a, _, c⟩, _⟩ := st; rw [a] at e'; cases e'; rw [c] at q; cases q
    · rw [List.mem_singleton.mp hb] at e'
      obtain ⟨_, o'', a, _, _, c⟩ := st; rw [a] at e'; cases e'; rw [c] at q; cases q
  · exact Same.trans ⟨_, _, rfl⟩ same
  · exact Same.trans ⟨_, _, rfl⟩ same

theorem bl_range1 {n : Int} {t : Tok} {Q : Value → Shared → Prop} (B : Bl G W A outer env L cells h₀ dep un m cm s.heap)
    (h : ∀ r h' t u v tk, Bl G W A outer env L cells h₀ dep un m cm h' → IsRange h' r 0 n 1 t u v → s.heap.StaysIn h' → Q (.ref r) { s with heap := h', toks := tk }) : wpAny (model prog w) A (call (.type "range") [.int n t]) Q E s :=
  call_range_1 (h _ _ _ _ _ _ (B.grow fun _ _ e => Heap.get?_push_of_some _ e) (IsRange.new ..) fun _ _ e => Heap.get?_push_of_some _ e)

/-- for x in range(n) -/
theorem bl_forRange {x : Str} {px : Pos} {body : List Stmt} {r : Addr} {n : Nat} {t u v : Tok} {R : Result → Shared → Prop} {E' : Value → Shared → Prop} (J : Nat → (Str → Option Value) → Heap → Prop) (U : List Addr) (hWG : ∀ b ∈ W, G.get? b = none)
    (B : Bl G W A outer env L cells h₀ dep un m cm s.heap) (hr : IsRange s.heap r 0 n 1 t u v) (hsmall : Builtin.Range.small 0 n 1 = true) (hn : Builtin.Range.rangeSize 0 n 1 = (n : Int)) (hU : ∀ b ∈ U, ∃ o, s.heap.get? b = some o)
    (stab : ∀ I i m h h', J i m h → IsItr h I → KpD [I] h h' → J i m h') (j0 : ∀ h', s.heap.StaysIn h' → J 0 m h')
    (turn : ∀ i v m s', i < n → J i m s'.heap → Bl G W A outer env L cells h₀ dep un (fun y => if y = x then some v else m y) cm s'.heap → Same s s' →
      wpAny (model prog w) A (execs body env) (fun f s₃ => match f with
        | .next | .cont => ∃ m', Bl G W A outer env L cells h₀ dep un m' cm s₃.heap ∧ J (i + 1) m' s₃.heap ∧ KpD U s'.heap s₃.heap ∧ Same s s₃
        | .brk => False
        | .ret v => R (.ok (.ret v)) s₃) (fun _ _ => False) s')
    (fin : ∀ m s', J n m s'.heap → Bl G W A outer env L cells h₀ dep un m cm s'.heap → Same s s' → KpD U s.heap s'.heap → R (.ok .next) s')
    (hx : env.kindOf x = some .local := by rfl) (ht : ∀ I v, letOwnedTupleGo (.Name x px) (.ref I) v = pure () := by intro _ _; rfl) :
    wpAny (model prog w) A (pyIter (.ref r)) (fun it s₂ => codeAny (model prog w) A (.forLoop (.Name x px) it body [] env) R s₂) E' s := by
  refine wpAny_pyIter_range hr hsmall ?_
  have k : s.heap.StaysIn (s.heap.push { cls := .type "range_iterator", data := .fields #[rawInt 0, rawInt (Builtin.Range.rangeSize 0 n 1), rawInt 1] }) := fun b o e => Heap.get?_push_of_some _ e
  refine bl_for (s := { s with heap := s.heap.push { cls := .type "range_iterator", data := .fields #[rawInt 0, rawInt (Builtin.Range.rangeSize 0 n 1), rawInt 1] } }) (Walks.range B.hd _ 0 1 n) J U hWG (B.grow k) (by show IsRangeIter _ _ _ _ _; rw [hn]; simpa using Heap.get?_push_size _ rfl) B.fr.ns.lt (fun i h st => ⟨_, _, st, rfl, fun q t z => (by simp [rawInt] at z)⟩) (fun b hb q => ?_) (fun i h st b hb o' e' es n q => ?_) (stab _) (j0 _ k) (fun i v m s' hi hv j B' same => turn i v m s' hi j B' ?_) (fun m s' j B' same kd => fin m s' j B' ?_ (fun b o hb d e => kd b o (fun q => (List.mem_cons.mp q).elim (fun q => (by rw [q, Heap.get?_none_of_le (Nat.le_refl _)] at e; cases e)) hb) d (k _ _ e))) hx (ht _)
  · obtain ⟨o', e'⟩ := hU b q
    rw [List.mem_singleton.mp hb, Heap.get?_none_of_le (Nat.le_refl _)] at e'; cases e'
  · rw [List.mem_singleton.mp hb] at e'
    have st' : h.get? _ = _ := st
    rw [st'] at e'; cases e'; cases q
  · exact Same.trans ⟨_, _, rfl⟩ same
  · exact Same.trans ⟨_, _, rfl⟩ same
end
end Mine
end

section
open PySem PySem.W PySem.Calls PyProof.Rows PySem.Spec PySem.SeqAt PyProof.V
set_option Elab.async false
set_option maxRecDepth 100000
namespace Mine
section
variable {prog : Program} {w : World} {G : Heap}

theorem ints_mem {vs : List Value} {ns : List Int} (x : IntsAre vs ns) : ∀ v ∈ vs, ∃ n t, v = .int n t := by
  induction x with
  | nil => intro v hv; cases hv
  | cons n t _ ih => intro v hv; rcases List.mem_cons.mp hv with rfl | hv; exact ⟨_, _, rfl⟩; exact ih v hv
theorem stab_plain {I a : Addr} {its : Array Value} {h h' : Heap} (p : h.PlainList a its) (io : IsItr h I) (k : KpD [I] h h') : h'.PlainList a its :=
  k.plain (fun q => by
    obtain ⟨o, fs, e, d, _⟩ := io
    obtain ⟨n, e2⟩ := p
    rw [List.mem_singleton.mp q, e] at e2; cases e2; cases d) p

theorem TabQ.itr {want : List (Pos × Str)} {P I : Addr} {h h' : Heap} (x : TabQ want P h) (io : IsItr h I) (k : KpD [I] h h') (hP : P ≠ I) : TabQ want P h' := by
  refine hide fun gl9 hg9 => ?_
  obtain ⟨ps, e, t, r⟩ := x
  refine hg9 ?_
  clear hg9 gl9
  refine ⟨ps, k _ _ (fun q => hP (List.mem_singleton.mp q)) (fun _ _ q => by cases q) e, t, fun q hq => ?_⟩
  rcases r q hq with r | ⟨c', r1, r2, r3⟩
  · exact .inl r
  · refine .inr ⟨c', r1, k.code (fun z => ?_) r2, r3⟩
    obtain ⟨c₂, oc, vs, tk, e2, hoc, hd, hv⟩ := r2
    cases e2
    obtain ⟨o, fs, i1, i2, i3⟩ := io
    rw [List.mem_singleton.mp z, i1] at hoc
    cases hoc
    rw [i2] at hd
    cases hd
    exact i3 _ _ hv
theorem FnQ.itr {h h' : Heap} {I f : Addr} {st : Stmt} {name qual : Str} {cl : List (Str × Addr)} (x : FnQ h f st name qual cl) (io : IsItr h I) (k : KpD [I] h h') : FnQ h' f st name qual cl := by
  refine hide fun gl9 hg9 => ?_
  obtain ⟨c', doc, pm, ctv, a, b, c⟩ := x
  refine hg9 ?_
  clear hg9 gl9
  refine hide fun gl9 hg9 => ?_
  obtain ⟨o, fs, i1, i2, i3⟩ := io
  refine hg9 ?_
  clear hg9 gl9
  refine ⟨c', doc, pm, ctv, k _ _ (fun q => ?_) (fun _ _ q => by cases q) a, k.code (fun z => ?_) b, c⟩
  · rw [List.mem_singleton.mp q, i1] at a; cases a; cases i2
  · obtain ⟨c₂, oc, vs, tk, e2, hoc, hd, hv⟩ := b
    cases e2
    rw [List.mem_singleton.mp z, i1] at hoc
    cases hoc
    rw [i2] at hd
    cases hd
    exact i3 _ _ hv

set_option maxHeartbeats 4000000 in
theorem ans_meetsL (X : LG w G) {aX : Addr} {xs : List Value} {ns : List Int} (hx : G.IsList aX xs.toArray) (hi : IntsAre xs ns) (hlen : ns.length ≤ 1000) :
    MeetsL prog w G [] 40 60 (.ref 104) [.ref aX] (fun _ _ => True) (fun _ h v h' => AnsPost G h v h') := by
  refine hide fun gl9 hg9 => ?_
  obtain ⟨p, loose, mean, mg, mb, T⟩ := X.T
  refine hg9 ?_
  clear hg9 gl9
  refine meetsL_fn (dep := 39) (un := 57) (f := 104) (binds := [("script", .ref aX)]) T.nolimit (fun fs h P hs b hb => by cases hb) (X.X _ _ (by rfl)) rfl (codeRec_of X.X (by kernel_rfl)) rfl (locs rfl) (by decide) rfl rfl rfl ?_
  intro A outer L h₀ s Qb Eb B P0 st hQ hP
  have T' := topRead_of T
  have hWG : ∀ b ∈ ([] : List Addr), G.get? b = none := fun b hb => by cases hb
  dsimp only at B hP ⊢
  have lowX : ∀ x, L ≤ x → ∀ b ∈ Wt, x ≠ b := fun x hx b hb q => Nat.lt_irrefl _ (Nat.lt_of_lt_of_le (X.sz b hb) (Nat.le_trans B.fr.above (q ▸ hx)))
  have lowW : ∀ x, L ≤ x → x ∉ Wt := fun x hx q => lowX x hx x q rfl
  refine wpAny_execs_cons ?_
  refine wpAny_Assign_Name ?_
  refine List_ ?_
  refine args_nil ?_
  refine bl_newList B (fun aF h1 B1 p1 k1 l1 _ => ?_)
  refine bl_store B1 (fun h2 B2 k2 => ?_)
  have p2 := (kpd_store B1.fr.ns k2).plain (by simp) p1
  refine wpAny_execs_cons ?_
  refine wpAny_For ?_
  refine Subscript_ ?_
  refine nameX_L B2.fr rfl ?_
  refine wpAny_Slice ?_
  refine wpAny_evalPart_none ?_
  refine wpAny_evalPart_some ?_
  refine wpAny_Constant_int ?_
  refine wpAny_evalPart_none ?_
  have hxl : xs.length = ns.length := hi.length
  refine bl_slice B2 (hx.at fun o e => B2.fr.keep _ _ e) .none (.int 25 _) (by lia) (fun aD h3 B3 p3 k3 l3 n3 => ?_)
  have hi3 := kmk_upto (y := 25) hi (by decide)
  generalize hz : (slicePick xs.toArray none (some 25) none).toList = zs at hi3
  have hz' : slicePick xs.toArray none (some 25) none = zs.toArray := by rw [← hz]
  rw [hz'] at p3
  have hzl : zs.length ≤ 25 := by rw [hi3.length, List.length_take]; exact Nat.min_le_left _ _
  refine bl_forList (fun i m h => ∃ bs : List Bool, m "found" = some (.ref aF) ∧ h.PlainList aF (bs.map Value.bool).toArray ∧ bs.length = 12 * i) [aF] hWG B3 p3.isList (fun b hb => ?_) ?_ ?_ ?_ ?_
  · rw [List.mem_singleton.mp hb]
    obtain ⟨n, e⟩ := p2
    exact ⟨fun q => (by rw [q, n3] at e; cases e), _, k3 _ _ e⟩
  · intro I i m h h' hJ9 io k
    refine hide fun gl9 hg9 => ?_
    obtain ⟨bs, a1, a2, a3⟩ := hJ9
    refine hg9 ?_
    clear hg9 gl9
    exact ⟨bs, a1, stab_plain a2 io k, a3⟩
  · intro h' k
    exact ⟨[], rfl, (p2.at (k3 _)).at (k _), rfl⟩
  · intro i v m s' hv hJ9 B' same
    refine hide fun gl9 hg9 => ?_
    obtain ⟨bs, a1, a2, a3⟩ := hJ9
    refine hg9 ?_
    clear hg9 gl9
    obtain ⟨n, t, rfl⟩ := ints_mem hi3 v (List.mem_of_getElem? hv)
    refine wpAny_execs_cons ?_
    refine wpAny_Assign_Name ?_
    refine wpAny_BinOp ?_
    refine nameX_L B'.fr rfl ?_
    refine wpAny_Constant_int ?_
    refine PyProof.Rows.mod_int (by decide) ?_
    refine bl_store (s := { s' with toks := _ }) B' (fun h4 B4 k4 => ?_)
    have kd4 : KpD [] s'.heap h4 := kpd_store B'.fr.ns k4
    have p4 := kd4.plain (by simp) a2
    refine wpAny_execs_cons ?_
    refine wpAny_For ?_
    refine Call_ ?_
    refine nameX_B B4.fr X.X T' (by kernel_rfl) boot_range (by decide) ?_
    refine PyProof.Rows.callWith_type1 ?_
    refine args_cons ?_
    refine wpAny_Constant_int ?_
    refine args_nil ?_
    refine bl_range1 (s := { s' with heap := h4, toks := _ }) B4 (fun r h5 t1 t2 t3 tk5 B5 r5 k5 => ?_)
    refine bl_forRange (n := 12) (s := { s' with heap := h5, toks := tk5 }) (fun j m h => ∃ bs : List Bool, m "found" = some (.ref aF) ∧ h.PlainList aF (bs.map Value.bool).toArray ∧ bs.length = 12 * i + j ∧ ∃ r t, m "rest" = some (.int r t)) [aF] hWG B5 r5 (by decide) (by decide) (fun b hb => ?_) ?_ ?_ ?_ ?_
    · rw [List.mem_singleton.mp hb]
      obtain ⟨n, e⟩ := p4
      exact ⟨_, k5 _ _ e⟩
    · intro I i m h h' hJ9 io k
      refine hide fun gl9 hg9 => ?_
      obtain ⟨bs, a1, a2, a3, a4⟩ := hJ9
      refine hg9 ?_
      clear hg9 gl9
      exact ⟨bs, a1, stab_plain a2 io k, a3, a4⟩
    · intro h' k
      exact ⟨bs, by show (if ("found" : Str) = "rest" then _ else if ("found" : Str) = "number" then _ else m "found") = _; rw [if_neg (by decide), if_neg (by decide)]; exact a1, (p4.at (k5 _)).at (k _), a3, _, _, rfl⟩
    · intro j v m₂ s₂ hj hJ9 B₂ same₂
      refine hide fun gl9 hg9 => ?_
      obtain ⟨bs, a1, a2, a3, r, tr, a4⟩ := hJ9
      refine hg9 ?_
      clear hg9 gl9
      refine wpAny_execs_cons ?_
      refine wpAny_Expr ?_
      refine MethodCall_ ?_
      refine nameX_L B₂.fr ((upd_ne (x := "turn") (by decide)).trans a1) ?_
      refine meth_plain a2 PySem.slot_list_append PySem.type_list_append ?_
      refine callWith_method1 ?_
      refine args_cons ?_
      refine wpAny_Compare1 ?_
      refine wpAny_BinOp ?_
      refine nameX_L B₂.fr ((upd_ne (x := "turn") (by decide)).trans a4) ?_
      refine wpAny_Constant_int ?_
      refine PyProof.Rows.mod_int (by decide) ?_
      refine wpAny_Constant_int ?_
      refine PyProof.Rows.eq_int ?_
      refine args_nil ?_
      refine app_plain (vs := bs.map Value.bool) (by exact a2) (by rw [List.length_map, a3, sizeLine_eq]; have := (List.getElem?_eq_some_iff.mp hv).1; lia) (fun h6 p6 hs6 => ?_)
      have B6 := B₂.softly [aF] (fun b hb => by rw [List.mem_singleton.mp hb]; exact .inr ⟨l1, soft_plain a2⟩) hWG (KpL.of_kp (fun b o hb e => (hs6.2 b (fun q => hb (q ▸ List.mem_singleton.mpr rfl))).trans e))
      refine wpAny_execs_cons ?_
      refine wpAny_Assign_Name ?_
      refine wpAny_BinOp ?_
      refine nameX_L B6.fr ((upd_ne (x := "turn") (by decide)).trans a4) ?_
      refine wpAny_Constant_int ?_
      refine half_int ?_
      refine bl_store (s := { s₂ with heap := h6, toks := _ }) B6 (fun h7 B7 k7 => ?_)
      have kd7 : KpD [] h6 h7 := kpd_store B6.fr.ns k7
      refine wpAny_execs_nil ?_
      refine ⟨_, B7, ⟨bs ++ [_], by show (if ("found" : Str) = "rest" then _ else if ("found" : Str) = "turn" then _ else m₂ "found") = _; rw [if_neg (by decide), if_neg (by decide)]; exact a1, kd7.plain (by simp) (by rw [List.map_append]; exact p6), by rw [List.length_append, a3]; rfl, _, _, rfl⟩, ?_, same₂.trans .of⟩
      exact KpD.trans (KpD.of_kp fun b o hb e => (hs6.2 b (fun q => hb (q ▸ List.mem_singleton.mpr rfl))).trans e) (kd7.mono (by simp))
    · intro m₂ s₂ hJ9 B₂ same₂ kd₂
      refine hide fun gl9 hg9 => ?_
      obtain ⟨bs, a1, a2, a3, a4⟩ := hJ9
      refine hg9 ?_
      clear hg9 gl9
      refine wpAny_execs_nil ?_
      refine ⟨m₂, B₂, ⟨bs, a1, a2, by rw [a3]; lia⟩, (kd4.mono (by simp)).trans ((KpD.of k5).trans kd₂), same.trans (Same.trans .of same₂)⟩
  · intro m s' hJ9 B' same kd
    refine hide fun gl9 hg9 => ?_
    obtain ⟨bs, a1, a2, a3⟩ := hJ9
    refine hg9 ?_
    clear hg9 gl9
    obtain ⟨hh, tt, rfl⟩ := same
    refine wpAny_execs_cons ?_
    refine wpAny_Return_some ?_
    refine wpAny_BinOp ?_
    refine nameX_L B'.fr a1 ?_
    refine List_ ?_
    refine args_cons ?_
    refine PyProof.Rows.Constant_bool ?_
    refine args_cons ?_
    refine PyProof.Rows.Constant_bool ?_
    refine args_cons ?_
    refine PyProof.Rows.Constant_bool ?_
    refine args_nil ?_
    refine bl_newList B' (fun t4 h4 B4 p4 k4 l4 _ => ?_)
    refine bl_add B4 (a2.at (k4 _)) p4 (by rw [List.length_map, a3]; show 12 * zs.length + 3 ≤ _; lia) (fun aR h5 B5 p5 k5 l5 _ => ?_)
    refine hQ (.ret (.ref aR)) h5 _ B5.fr.keep B5.kp ⟨aR, bs ++ [true, false, false], rfl, by rw [List.map_append]; exact p5, ?_, ?_, B5.new _ (Nat.le_of_lt l5), B5.gl _ (Nat.le_of_lt l5), lowW _ (Nat.le_of_lt l5)⟩
    · rw [List.length_append]; show 0 < bs.length + 3; lia
    · rw [List.length_append, a3]; show 12 * zs.length + 3 ≤ 1000; lia
end
end Mine
end

section
open PySem PySem.W PySem.Calls PyProof.Rows PySem.Spec PySem.SeqAt PyProof.V
set_option Elab.async false
set_option maxRecDepth 100000
namespace Mine
section
variable {prog : Program} {w : World} {A : Around} {E : Value → Shared → Prop} {s : Shared} {env : Env}

/-- the block of [elt for a, b in iter if c], the pairs drawn by a walk; the test and the element are quiet -/
theorem comp_core {elt iter c : Expr} {a b : Str} {pa pb tp : Pos} {kk : Nat} {scope : Scope} {cl : List (Str × Addr)} {pos : Pos} {s₂ : Shared} {RR : Value → Addr → Result → Shared → Prop} (Acc : Nat → List Value → Prop) (hh : A.handled = none)
    {I : Addr} {fp wr : List Addr} {n : Nat} {Pt : Nat → Array Value → Prop} {St : Nat → Heap → Prop} {Mid : Nat → Addr → Heap → Prop} (W : WalksU prog w A I fp wr n Pt St Mid) (hsz : n ≤ 100000) (hst : St 0 s₂.heap) (hfp : ∀ b ∈ fp, b < s₂.heap.objs.size) (hacc0 : Acc 0 [])
    (hcell : ∀ y ∈ scope.names, y.2 ≠ .cell) (hkind : scope.kind = .function) (ha : scope.names.lookup a = some .local) (hb : scope.names.lookup b = some .local) (hab : a ≠ b)
    (step : ∀ i vals ys, i < n → Pt i vals → Acc i ys → ∃ (x y : Value) (p : Bool) (v : Value), vals = #[x, y] ∧ (if p then Acc (i + 1) (ys ++ [v]) else Acc (i + 1) ys) ∧
        (∀ C (s₃ : Shared) m₃ E', s₃.heap.Ns C m₃ → m₃ a = some x → m₃ b = some y → (∀ b o, b ∉ wr → s₂.heap.get? b = some o → s₃.heap.get? b = some o) →
          wpAny (model prog w) A (isTrue c (compEnvC scope cl C env) (eval c (compEnvC scope cl C env))) (fun ok s₄ => ok = p ∧ Keeps s₃ s₄) E' s₃) ∧
        (p = true → ∀ C (s₃ : Shared) m₃ E', s₃.heap.Ns C m₃ → m₃ a = some x → m₃ b = some y → (∀ b o, b ∉ wr → s₂.heap.get? b = some o → s₃.heap.get? b = some o) →
          wpAny (model prog w) A (eval elt (compEnvC scope cl C env)) (fun v' s₄ => v' = v ∧ Keeps s₃ s₄) E' s₃))
    (hRR : ∀ (D C : Addr) (h' : Heap) (tk : Nat) (m' : Str → Option Value) (ys : List Value), s₂.heap.get? D = none → s₂.heap.get? C = none → D ≠ C → h'.Ns C m' → h'.PlainList D (List.toArray ys) → Acc n ys → (∀ b o, b ∉ wr → s₂.heap.get? b = some o → h'.get? b = some o) → RR (.ref D) C (.ok .next) { s₂ with heap := h', toks := tk }) :
    wpAny (model prog w) A (newList []) (fun acc s₃ => wpAny (model prog w) A (newFunctionEnv scope env.globals cl [] env.qual none .none (some env)) (fun cenv s₄ =>
      codeAny (model prog w) A (.compStart (.ListComp elt [⟨.Tuple [.Name a pa, .Name b pb] kk tp, iter, [c], 0⟩] scope pos) 0 (.ref I) acc { cenv with scope := relabel scope env }) (RR acc cenv.locals) s₄) E s₃) E s₂ := by
  refine wpAny_newObj_type (wpAny_newFunctionEnv hcell (by intro y hy; simp at hy) (fun h₁ hns₁ hsb₁ => ?_) hkind)
  dsimp only at hns₁ hsb₁ ⊢
  generalize hH2 : s₂.heap.push { cls := .type "list", dict := none, data := .seq ([] : List Value).toArray } = H2 at hns₁ hsb₁ ⊢
  have hC : H2.objs.size = s₂.heap.objs.size + 1 := by rw [← hH2, Heap.size_push]
  have hDC : s₂.heap.objs.size ≠ H2.objs.size := by rw [hC]; exact Nat.ne_of_lt (Nat.lt_succ_self _)
  have below : ∀ b, b < s₂.heap.objs.size → b ≠ H2.objs.size ∧ b ≠ s₂.heap.objs.size := fun b hb => ⟨by rw [hC]; exact Nat.ne_of_lt (Nat.lt_succ_of_lt hb), Nat.ne_of_lt hb⟩
  have hDf : s₂.heap.objs.size ∉ fp := fun hm => Nat.lt_irrefl _ (hfp _ hm)
  have hCf : H2.objs.size ∉ fp := fun hm => by have := hfp _ hm; rw [hC] at this; exact Nat.lt_irrefl _ (Nat.lt_of_succ_lt this)
  have old : ∀ b o, s₂.heap.get? b = some o → h₁.get? b = some o := fun b o e => hsb₁.extBut b o (below b (Heap.lt_size e)).1 (Heap.get?_push_of_some _ (hH2 ▸ Heap.get?_push_of_some _ e))
  have hacc : h₁.PlainList s₂.heap.objs.size (List.toArray []) := ⟨_, hsb₁.extBut _ _ hDC (Heap.get?_push_of_some _ (hH2 ▸ Heap.get?_push_size _ rfl))⟩
  have hst₁ : St 0 h₁ := W.frame _ _ _ hst fun b _ o e => old b o e
  have fresh : ∀ a, s₂.heap.objs.size ≤ a → s₂.heap.get? a = none := fun a ha => Heap.get?_none_of_le ha
  generalize hD : s₂.heap.objs.size = D at hDC hDf hacc below
  generalize hCc : H2.objs.size = C at hns₁ hDC hCf below
  have hDw : D ∉ wr := fun q => hDf (W.sub _ q)
  have hCw : C ∉ wr := fun q => hCf (W.sub _ q)
  have hnD : s₂.heap.get? D = none := fresh _ (by rw [hD]; exact Nat.le_refl _)
  have hnC : s₂.heap.get? C = none := fresh _ (by rw [← hCc, hC]; exact Nat.le_succ _)
  have la : Env.kindOf (compEnvC scope cl C env) a = some .local := lookup_relabel_local ha
  have lb : Env.kindOf (compEnvC scope cl C env) b = some .local := lookup_relabel_local hb
  have hp : ((compEnvC scope cl C env).scope.kind == .class || ((compEnvC scope cl C env).scope.kind == .module && (compEnvC scope cl C env).locals != (compEnvC scope cl C env).globals)) = false := by simp [compEnvC, relabel, hkind]
  have loop : ∀ s₃ : Shared, s₃ = { s₂ with heap := h₁, toks := s₂.toks + ([] : List (Str × Value)).length } →
      codeAny (model prog w) A (.compLoop (.ListComp elt [⟨.Tuple [.Name a pa, .Name b pb] kk tp, iter, [c], 0⟩] scope pos) 0 (.ref I) (.ref D) (compEnvC scope cl C env)) (RR (.ref D) C) s₃ := by
    rintro s₃ rfl
    refine kct_loop (fun k s' => ∃ i H tk m' ys, k + i = n ∧ s' = { s₂ with heap := H, toks := tk } ∧ St i H ∧ H.PlainList D (List.toArray ys) ∧ H.Ns C m' ∧ Acc i ys ∧ ys.length ≤ i ∧ ∀ b o, b ∉ wr → s₂.heap.get? b = some o → H.get? b = some o) ?_ n
      ⟨0, h₁, _, _, [], by lia, rfl, hst₁, hacc, hns₁, hacc0, Nat.le_refl _, fun b o _ e => old b o e⟩
    intro k s' hJ9
    refine hide fun gl9 hg9 => ?_
    obtain ⟨i, H, tk, m', ys, hki, rfl, st, pl, ns, ac, yl, kp⟩ := hJ9
    refine hg9 ?_
    clear hg9 gl9
    by_cases hin : i < n
    · refine W.item i _ _ _ hin st (fun T vals h' tk' hP hT hmid hk => ?_)
      obtain ⟨x, y, p, v, rfl, hacc', htest, helt⟩ := step i vals ys hin hP ac
      have off : ∀ b o, b ∉ wr → H.get? b = some o → h'.get? b = some o := hk
      have hTw : T ∉ wr := W.apart _ _ _ hmid
      refine W.go _ _ _ i T { s₂ with heap := h', toks := tk' } _ _ hmid (fun h'' st'' hk'' => ?_)
      have hT'' : h''.IsTuple T #[x, y] := let ⟨o, e, r⟩ := hT; ⟨o, hk'' _ _ hTw e, r⟩
      have ns'' : h''.Ns C m' := (ns.at' fun o e => hk _ o hCw e).at' fun o e => hk'' _ o hCw e
      have pl'' : h''.PlainList D (List.toArray ys) := (pl.at fun o e => hk _ o hDw e).at fun o e => hk'' _ o hDw e
      have kp'' : ∀ b o, b ∉ wr → s₂.heap.get? b = some o → h''.get? b = some o := fun b o hb e => hk'' b o hb (hk b o hb (kp b o hb e))
      refine kcp_assign (s := { s₂ with heap := h'', toks := tk' }) hh hT'' la lb hp ns'' (fun h3 tk3 ns3 hk3 => ?_)
      have notC : ∀ b o, s₂.heap.get? b = some o → b ≠ C := fun b o e q => by rw [q, hnC] at e; cases e
      have kp3 : ∀ b o, b ∉ wr → s₂.heap.get? b = some o → h3.get? b = some o := fun b o hb e => hk3 b o (notC b o e) (kp'' b o hb e)
      have st3 : St (i + 1) h3 := W.frame _ _ _ st'' fun b hb o e => hk3 b o (fun q => hCf ((show b = C from q) ▸ hb)) e
      have pl3 : h3.PlainList D (List.toArray ys) := pl''.at fun o e => hk3 _ o hDC e
      have mb : (fun z => if z = b then some y else if z = a then some x else m' z) b = some y := if_pos rfl
      have ma : (fun z => if z = b then some y else if z = a then some x else m' z) a = some x := by show (if a = b then _ else if a = a then _ else _) = _; rw [if_neg hab, if_pos rfl]
      refine wpAny_mono (htest C { s₂ with heap := h3, toks := tk3 } _ _ ns3 ma mb kp3) (fun ok s4 hok => ?_) fun _ _ z => z
      obtain ⟨rfl, h4, tk4, rfl, hk4⟩ := hok
      have kp4 : ∀ b o, b ∉ wr → s₂.heap.get? b = some o → h4.get? b = some o := fun b o hb e => hk4 b o (kp3 b o hb e)
      have st4 : St (i + 1) h4 := W.frame _ _ _ st3 fun b hb o e => hk4 b o e
      have pl4 : h4.PlainList D (List.toArray ys) := pl3.at fun o e => hk4 _ o e
      have ns4 := ns3.keeps hk4
      cases ok with
      | false =>
        simp only [Bool.false_eq_true, if_false] at hacc' ⊢
        exact ⟨k - 1, by lia, i + 1, h4, tk4, _, ys, by lia, rfl, st4, pl4, ns4, hacc', by lia, kp4⟩
      | true =>
        simp only [if_true] at hacc' ⊢
        refine wpAny_mono (helt rfl C { s₂ with heap := h4, toks := tk4 } _ _ ns4 ma mb kp4) (fun v' s5 hv => ?_) fun _ _ z => z
        obtain ⟨rfl, h5, tk5, rfl, hk5⟩ := hv
        have pl5 : h5.PlainList D (List.toArray ys) := pl4.at fun o e => hk5 _ o e
        refine app_plain (s := { s₂ with heap := h5, toks := tk5 }) pl5 (by rw [sizeLine_eq]; lia) (fun h6 p6 hs6 => ?_)
        have hDne : ∀ b o, s₂.heap.get? b = some o → b ≠ D := fun b o e q => by rw [q, hnD] at e; cases e
        refine ⟨k - 1, by lia, i + 1, h6, tk5, _, ys ++ [v'], by lia, rfl, ?_, p6, (ns4.keeps hk5).sameBut hs6 (Ne.symm hDC), hacc', by rw [List.length_append]; show ys.length + 1 ≤ i + 1; lia, fun b o hb e => hs6.extBut b o (hDne b o e) (hk5 b o (kp4 b o hb e))⟩
        exact W.frame _ _ _ (W.frame _ _ _ st4 fun b hb o e => hk5 b o e) fun b hb o e => hs6.extBut b o (fun q => hDf (q ▸ hb)) e
    · have : i = n := by lia
      subst this
      refine W.done _ _ _ st (fun h' tk' hk => ?_)
      have ns' : h'.Ns C m' := ns.at' fun o e => hk _ o hCw e
      have pl' : h'.PlainList D (List.toArray ys) := pl.at fun o e => hk _ o hDw e
      exact hRR D C h' tk' m' ys hnD hnC hDC ns' pl' ac fun b o hb e => hk b o hb (kp b o hb e)
  exact codeAny_compStart_list (loop _ rfl) (W.self 0 _ _ _ hst₁ (loop _ rfl))

/-- [elt for a, b in iter if c], the pairs drawn by a walk; the test and the element are quiet -/
theorem comp_pair {elt iter c : Expr} {a b : Str} {pa pb tp : Pos} {kk : Nat} {scope : Scope} {cl : List (Str × Addr)} {pos : Pos} {Q : Value → Shared → Prop} (Acc : Nat → List Value → Prop) (hh : A.handled = none)
    (hclos : closureFor scope env = pure cl) (hcell : ∀ y ∈ scope.names, y.2 ≠ .cell) (hkind : scope.kind = .function)
    (hnames : ∀ y ∈ scope.names, y.2 = .local → scope.names.lookup y.1 = some .local) (ha : scope.names.lookup a = some .local) (hb : scope.names.lookup b = some .local) (hab : a ≠ b)
    (h : wpAny (model prog w) A (eval iter env) (fun xv s₁ => wpAny (model prog w) A (pyIter xv) (fun it s₂ => ∃ (I : Addr) (fp wr : List Addr) (n : Nat) (Pt : Nat → Array Value → Prop) (St : Nat → Heap → Prop) (Mid : Nat → Addr → Heap → Prop), it = .ref I ∧ WalksU prog w A I fp wr n Pt St Mid ∧ n ≤ 100000 ∧ St 0 s₂.heap ∧ (∀ b ∈ fp, b < s₂.heap.objs.size) ∧ Acc 0 [] ∧
      (∀ i vals ys, i < n → Pt i vals → Acc i ys → ∃ (x y : Value) (p : Bool) (v : Value), vals = #[x, y] ∧ (if p then Acc (i + 1) (ys ++ [v]) else Acc (i + 1) ys) ∧
        (∀ C (s₃ : Shared) m₃ E', s₃.heap.Ns C m₃ → m₃ a = some x → m₃ b = some y → (∀ b o, b ∉ wr → s₂.heap.get? b = some o → s₃.heap.get? b = some o) →
          wpAny (model prog w) A (isTrue c (compEnvC scope cl C env) (eval c (compEnvC scope cl C env))) (fun ok s₄ => ok = p ∧ Keeps s₃ s₄) E' s₃) ∧
        (p = true → ∀ C (s₃ : Shared) m₃ E', s₃.heap.Ns C m₃ → m₃ a = some x → m₃ b = some y → (∀ b o, b ∉ wr → s₂.heap.get? b = some o → s₃.heap.get? b = some o) →
          wpAny (model prog w) A (eval elt (compEnvC scope cl C env)) (fun v' s₄ => v' = v ∧ Keeps s₃ s₄) E' s₃)) ∧
      (∀ (D : Addr) (h' : Heap) (tk : Nat) (ys : List Value), s₂.heap.get? D = none → h'.PlainList D (List.toArray ys) → Acc n ys → (∀ b o, b ∉ wr → s₂.heap.get? b = some o → h'.get? b = some o) → Q (.ref D) { s₂ with heap := h', toks := tk })) E s₁) E s)
    (hs : ∀ x, foldedSetIterable iter env x = pure x := by intro _; rfl) :
    wpAny (model prog w) A (eval (.ListComp elt [⟨.Tuple [.Name a pa, .Name b pb] kk tp, iter, [c], 0⟩] scope pos) env) Q E s := by
  rw [eval_ListComp]
  refine wpAny_comprehension_free (use := none) rfl hs hclos hkind hnames (wpAny_mono h (fun xv s₁ h₁ => wpAny_mono h₁ (fun it s₂ h₂ => ?_) fun _ _ e => e) fun _ _ e => e)
  refine hide fun gl9 hg9 => ?_
  obtain ⟨I, fp, wr, n, Pt, St, Mid, rfl, W, hsz, hst, hfp, hacc0, step, hQ⟩ := h₂
  refine hg9 ?_
  clear hg9 gl9
  refine comp_core (RR := fun acc C => compPost (model prog w) A E none Q acc C) Acc hh W hsz hst hfp hacc0 hcell hkind ha hb hab step ?_
  intro D C h' tk m' ys hD hC hDC ns' pl' ac hk
  exact ⟨m', ns', fun h'' hs'' => hQ D h'' tk ys hD (pl'.at fun o e => hs''.extBut _ _ hDC e) ac fun b o hb e => hs''.extBut b o (fun q => by rw [q, hC] at e; cases e) (hk b o hb e)⟩

/-- y = [elt for a, b in iter if c] -/
theorem comp_pair_assign {elt iter c : Expr} {a b : Str} {pa pb tp : Pos} {kk : Nat} {scope : Scope} {cl : List (Str × Addr)} {pos : Pos} {y : Str} {py spos : Pos} {Q : Flow → Shared → Prop} (Acc : Nat → List Value → Prop) (hh : A.handled = none)
    (hsw : swapsWith (.ListComp elt [⟨.Tuple [.Name a pa, .Name b pb] kk tp, iter, [c], 0⟩] scope pos) (some (.Name y py)) spos.line env = pure true) (hy : env.kindOf y = some .local) (hp : (env.scope.kind == .class || (env.scope.kind == .module && env.locals != env.globals)) = false)
    (hclos : closureFor scope env = pure cl) (hcell : ∀ y ∈ scope.names, y.2 ≠ .cell) (hkind : scope.kind = .function)
    (hnames : ∀ y ∈ scope.names, y.2 = .local → scope.names.lookup y.1 = some .local) (ha : scope.names.lookup a = some .local) (hb : scope.names.lookup b = some .local) (hab : a ≠ b)
    (h : wpAny (model prog w) A (eval iter env) (fun xv s₁ => wpAny (model prog w) A (pyIter xv) (fun it s₂ => ∃ (I : Addr) (fp wr : List Addr) (n : Nat) (Pt : Nat → Array Value → Prop) (St : Nat → Heap → Prop) (Mid : Nat → Addr → Heap → Prop) (m : Str → Option Value), it = .ref I ∧ s₂.heap.Ns env.locals m ∧ env.locals ∉ wr ∧ WalksU prog w A I fp wr n Pt St Mid ∧ n ≤ 100000 ∧ St 0 s₂.heap ∧ (∀ b ∈ fp, b < s₂.heap.objs.size) ∧ Acc 0 [] ∧
      (∀ i vals ys, i < n → Pt i vals → Acc i ys → ∃ (x y : Value) (p : Bool) (v : Value), vals = #[x, y] ∧ (if p then Acc (i + 1) (ys ++ [v]) else Acc (i + 1) ys) ∧
        (∀ C (s₃ : Shared) m₃ E', s₃.heap.Ns C m₃ → m₃ a = some x → m₃ b = some y → (∀ b o, b ∉ wr → s₂.heap.get? b = some o → s₃.heap.get? b = some o) →
          wpAny (model prog w) A (isTrue c (compEnvC scope cl C env) (eval c (compEnvC scope cl C env))) (fun ok s₄ => ok = p ∧ Keeps s₃ s₄) E' s₃) ∧
        (p = true → ∀ C (s₃ : Shared) m₃ E', s₃.heap.Ns C m₃ → m₃ a = some x → m₃ b = some y → (∀ b o, b ∉ wr → s₂.heap.get? b = some o → s₃.heap.get? b = some o) →
          wpAny (model prog w) A (eval elt (compEnvC scope cl C env)) (fun v' s₄ => v' = v ∧ Keeps s₃ s₄) E' s₃)) ∧
      (∀ (D : Addr) (h' : Heap) (tk : Nat) (ys : List Value), s₂.heap.get? D = none → h'.PlainList D (List.toArray ys) → Acc n ys → h'.Ns env.locals (fun z => if z = y then some (.ref D) else m z) → (∀ b o, b ≠ env.locals → b ∉ wr → s₂.heap.get? b = some o → h'.get? b = some o) → Q .next { s₂ with heap := h', toks := tk })) E s₁) E s)
    (hs : ∀ x, foldedSetIterable iter env x = pure x := by intro _; rfl) :
    wpAny (model prog w) A (exec (.Assign [.Name y py] (.ListComp elt [⟨.Tuple [.Name a pa, .Name b pb] kk tp, iter, [c], 0⟩] scope pos) spos) env) Q E s := by
  rw [exec_Assign_Name_used _ _ _ _ hsw]
  refine wpAny_bind (wpAny_standAt (wpAny_bind ?_))
  show wpAny _ A (do let _ ← comprehension (.ListComp elt [⟨.Tuple [.Name a pa, .Name b pb] kk tp, iter, [c], 0⟩] scope pos) scope env _ (newList []) false (eval iter env) (some (assign (.Name y py) env))) _ _ s
  refine wpAny_bind (wpAny_mono (wpAny_comprehension_free (use := some (assign (.Name y py) env)) (Q := fun _ s' => Q .next s') rfl hs hclos hkind hnames
    (wpAny_mono h (fun xv s₁ h₁ => wpAny_mono h₁ (fun it s₂ h₂ => ?_) fun _ _ e => e) fun _ _ e => e)) (fun _ s' hq => wpAny_pure (wpAny_pure hq)) fun _ _ e => e)
  refine hide fun gl9 hg9 => ?_
  obtain ⟨I, fp, wr, n, Pt, St, Mid, m, rfl, hn, hLf, W, hsz, hst, hfp, hacc0, step, hQ⟩ := h₂
  refine hg9 ?_
  clear hg9 gl9
  refine comp_core (RR := fun acc C => compPost (model prog w) A E (some (assign (.Name y py) env)) (fun _ s' => Q .next s') acc C) Acc hh W hsz hst hfp hacc0 hcell hkind ha hb hab step ?_
  intro D C h' tk m' ys hD hC hDC ns' pl' ac hk
  have hLC : env.locals ≠ C := by rintro rfl; obtain ⟨o, _, _, ho, _⟩ := hn; rw [hC] at ho; cases ho
  have hLD : env.locals ≠ D := by rintro rfl; obtain ⟨o, _, _, ho, _⟩ := hn; rw [hD] at ho; cases ho
  show wpAny _ A (assign (.Name y py) env (.ref D)) _ _ _
  refine wpAny_assign_Name (wpAny_storeName_local hy (hn.at' fun o e => hk _ o hLf e) (fun h₂ hn₂ hs₂ => ?_) hp)
  refine ⟨m', ns'.sameBut hs₂ (Ne.symm hLC), fun h₃ hs₃ => ?_⟩
  exact hQ D h₃ _ ys hD ((pl'.at fun o e => hs₂.extBut _ _ (Ne.symm hLD) e).at fun o e => hs₃.extBut _ _ hDC e) ac (hn₂.sameBut hs₃ hLC) fun b o hbL hb e =>
    hs₃.extBut b o (by rintro rfl; rw [hC] at e; cases e) (hs₂.extBut b o hbL (hk b o hb e))
end
end Mine
end

section
open PySem PySem.W PySem.Calls PyProof.Rows PySem.Spec PySem.SeqAt PyProof.V
set_option Elab.async false
set_option maxRecDepth 100000
namespace Mine

/-- what a value at a place counts as -/
def vkey : Value → Option Int × Str
  | .int i _ => (some i, "")
  | .str x _ => (none, x)
  | _ => (none, "")

section
variable {prog : Program} {w : World} {G : Heap} {W : List Addr} {A : Around} {outer : List Env} {env : Env} {L a : Addr} {cells : List (Str × Addr)} {h₀ h h' : Heap} {dep un : Nat} {m m' cm : Str → Option Value} {E : Value → Shared → Prop} {s : Shared} {cn : Str} {cs : Scope} {ccd : Value} {cl : List (Str × Addr)}

theorem eq_vok {x y : Value} {Q : Value → Shared → Prop} (hx : VOk x) (hy : VOk y) (h : Q (.bool (decide (vkey x = vkey y))) s) : wpAny (model prog w) A (compareOp .Eq x y) Q E s := by
  have key : ∀ {x : Value}, VOk x → (∃ i t, x = .int i t) ∨ ∃ u t, x = .str u t := fun hx => by
    rcases hx with ⟨i, t, rfl⟩ | ⟨t, rfl⟩ | ⟨t, rfl⟩
    · exact .inl ⟨_, _, rfl⟩
    · exact .inr ⟨_, _, rfl⟩
    · exact .inr ⟨_, _, rfl⟩
  rcases key hx with ⟨i, t, rfl⟩ | ⟨u, t, rfl⟩ <;> rcases key hy with ⟨j, t', rfl⟩ | ⟨u', t', rfl⟩
  · refine PyProof.Rows.eq_int ?_
    have : (i == j) = decide (vkey (.int i t) = vkey (.int j t')) := by
      rw [Bool.eq_iff_iff, beq_iff_eq, decide_eq_true_iff]
      simp [vkey]
    rw [this]; exact h
  · refine PySem.EqMixed.eq_int_str ?_
    have : decide (vkey (.int i t) = vkey (.str u' t')) = false := by rw [decide_eq_false_iff_not]; simp [vkey]
    rw [this] at h; exact h
  · refine PySem.EqMixed.eq_str_int ?_
    have : decide (vkey (.str u t) = vkey (.int j t')) = false := by rw [decide_eq_false_iff_not]; simp [vkey]
    rw [this] at h; exact h
  · refine PyProof.Rows.eq_str ?_
    have : (u == u') = decide (vkey (.str u t) = vkey (.str u' t')) := by
      rw [Bool.eq_iff_iff, beq_iff_eq, decide_eq_true_iff]
      simp [vkey]
    rw [this]; exact h

/-- the frame's own dict turns, and U -/
theorem Bl.stored (B : Bl G W A outer env L cells h₀ dep un m cm h) (hWG : ∀ b ∈ W, G.get? b = none) (U : List Addr) (hU : Soft W L U h) (hn : h'.Ns L m') (k : ∀ b o, b ≠ L → b ∉ U → h.get? b = some o → h'.get? b = some o) : Bl G W A outer env L cells h₀ dep un m' cm h' := by
  have hnew : ∀ b o, h₀.get? b = some o → b ∉ W → b ∉ U := fun b o e hb q => (hU b q).elim hb fun ⟨q, _⟩ => by rw [B.new b (Nat.le_of_lt q)] at e; cases e
  have hnL : ∀ b o, h₀.get? b = some o → b ≠ L := fun b o e q => by rw [q, B.new L (Nat.le_refl _)] at e; cases e
  refine { B with
    fr := ⟨hn, fun b o e => k b o (fun q => ?_) (fun q => ?_) (B.fr.keep b o e), B.fr.above⟩
    cl := ⟨fun n c e => ?_, B.cl.apart, B.cl.above⟩
    kp := ⟨fun b o hb hf e => k b o (hnL b o e) (hnew b o e hb) (B.kp.1 b o hb hf e), fun b o hb e hn' => ?_⟩
    ff := ?_ }
  · rw [q, B.gl L (Nat.le_refl _)] at e; cases e
  · rcases hU b q with q | ⟨q, _⟩
    · rw [hWG b q] at e; cases e
    · rw [B.gl b (Nat.le_of_lt q)] at e; cases e
  · obtain ⟨o, ho, hd⟩ := B.cl.cell n c e
    exact ⟨o, k c o (Nat.ne_of_gt (B.cl.above n c (mem_of_lookup e))) (fun q => (hU c q).elim (B.cw n c (mem_of_lookup e)) fun ⟨_, p⟩ => cell_ne_soft ⟨o, ho, hd⟩ p rfl) ho, hd⟩
  · obtain ⟨sl, e1⟩ := B.kp.2 b o hb e hn'
    exact ⟨sl, k b _ (hnL b o e) (hnew b o e hb) e1⟩
  · have key : ∀ {l : List Env}, FFr G W h l → (∀ b ∈ l.filterMap (·.frame), b < L) → FFr G W h' l := by
      intro l
      induction l with
      | nil => intro _ _; trivial
      | cons e r ih =>
        rintro ⟨a1, ⟨L', m₂, b1, b2, b3, b4⟩, r'⟩ hin
        have hL' : L' < L := hin L' (by rw [List.filterMap_cons, b1]; exact .head _)
        refine ⟨a1, ⟨L', m₂, b1, b2, b3, ?_⟩, ih r' fun b hb => hin b (by rw [List.filterMap_cons, b1]; exact .tail _ hb)⟩
        exact b4.at' fun o e => k L' o (Nat.ne_of_lt hL') (fun q => (hU L' q).elim b3 fun ⟨_, p⟩ => ns_ne_soft b4 p rfl) e
    exact key B.ff B.fl

/-- for x in a list that stays; x a cell -/
theorem bl_forListC {x : Str} {cx : Addr} {px : Pos} {body : List Stmt} {ax : Addr} {vs : List Value} {R : Result → Shared → Prop} {E' : Value → Shared → Prop} (J : Nat → (Str → Option Value) → Heap → Prop) (U : List Addr) (hWG : ∀ b ∈ W, G.get? b = none)
    (B : Bl G W A outer env L cells h₀ dep un m cm s.heap) (hc : cells.lookup x = some cx) (pl : s.heap.IsList ax vs.toArray) (hU : ∀ b ∈ U, b ≠ ax ∧ ∃ o, s.heap.get? b = some o)
    (stab : ∀ I i m h h', J i m h → (∃ o, h.get? I = some o ∧ ((∃ fs, o.data = .fields fs) ∨ ∃ v, o.data = .cell v)) → KpD [I] h h' → J i m h') (j0 : ∀ h', s.heap.StaysIn h' → J 0 m h')
    (turn : ∀ (i : Nat) (v : Value) (m cm : Str → Option Value) (s' : Shared), vs[i]? = some v → J i m s'.heap → Bl G W A outer env L cells h₀ dep un m (fun y => if y = x then some v else cm y) s'.heap → Same s s' →
      wpAny (model prog w) A (execs body env) (fun f s₃ => match f with
        | .next | .cont => ∃ m' cm', Bl G W A outer env L cells h₀ dep un m' cm' s₃.heap ∧ J (i + 1) m' s₃.heap ∧ KpD U s'.heap s₃.heap ∧ Same s s₃
        | .brk => False
        | .ret v => R (.ok (.ret v)) s₃) (fun _ _ => False) s')
    (fin : ∀ (m cm : Str → Option Value) (s' : Shared), J vs.length m s'.heap → Bl G W A outer env L cells h₀ dep un m cm s'.heap → Same s s' → R (.ok .next) s')
    (hx : env.kindOf x = some .cell := by rfl) (ht : ∀ I v, letOwnedTupleGo (.Name x px) (.ref I) v = pure () := by intro _ _; rfl) :
    wpAny (model prog w) A (pyIter (.ref ax)) (fun it s₂ => codeAny (model prog w) A (.forLoop (.Name x px) it body [] env) R s₂) E' s := by
  refine hide fun gl9 hg9 => ?_
  obtain ⟨o, e, hcl, nn, hd⟩ := id pl
  refine hg9 ?_
  clear hg9 gl9
  have hne : ax ≠ s.heap.objs.size := Nat.ne_of_lt (Heap.lt_size e)
  refine wpAny_pyIter_list pl ?_
  have k : s.heap.StaysIn (s.heap.push { cls := .type "list_iterator", data := .fields #[.ref ax, .int 0 0] }) := fun b o e => Heap.get?_push_of_some _ e
  have Wk := walk_list (prog := prog) (w := w) (vs := vs) B.hd hne
  have hIL : L < s.heap.objs.size := B.fr.ns.lt
  generalize hI : s.heap.objs.size = I at *
  have hIU : I ∉ U := fun q => by
    obtain ⟨_, o', e'⟩ := hU I q
    rw [Heap.get?_none_of_le (Nat.le_of_eq hI)] at e'; cases e'
  have haU : ax ∉ U := fun q => (hU ax q).1 rfl
  refine codeAny_forLoop (fun k s' => ∃ i m cm, k + i = vs.length ∧ J i m s'.heap ∧ Bl G W A outer env L cells h₀ dep un m cm s'.heap ∧ s'.heap.IsListIter I ax i ∧ s'.heap.IsList ax vs.toArray ∧ Same s s') (fun k s₁ hI' => ?_) vs.length
    ⟨0, m, cm, by lia, j0 _ k, B.grow k, ⟨_, by rw [← hI]; exact Heap.get?_push_size _ rfl, rfl, rfl⟩, pl.push _, ⟨_, _, rfl⟩⟩ (ht _)
  refine hide fun gl9 hg9 => ?_
  obtain ⟨i, m₁, cm₁, hki, j, B₁, it₁, pl₁, same₁⟩ := hI'
  refine hg9 ?_
  clear hg9 gl9
  have io : ∃ o fs, s₁.heap.get? I = some o ∧ o.data = .fields fs := let ⟨o, a, _, c⟩ := it₁; ⟨o, _, a, c⟩
  have io' : ∃ o, s₁.heap.get? I = some o ∧ ((∃ fs, o.data = .fields fs) ∨ ∃ v, o.data = .cell v) := let ⟨o, fs, a, c⟩ := io; ⟨o, a, .inl ⟨fs, c⟩⟩
  by_cases hin : i < vs.length
  · refine Wk.item i s₁ _ _ hin ⟨it₁, pl₁⟩ (fun v h' tk hP st' hk => ?_)
    have B₂ := B₁.new1 hWG hIL (soft_fields io) hk
    have j₂ := stab I i m₁ _ _ j io' (KpD.of_kp hk)
    refine wpAny_assign_Name ?_
    have hcell := B₂.cl.cell x cx hc
    refine bl_storeC (s := { s₁ with heap := h', toks := tk }) B₂ hc (fun h'' B₃ k₃ => ?_) hx
    have j₃ := stab cx i m₁ _ _ j₂ (let ⟨o, e, d⟩ := hcell; ⟨o, e, .inr ⟨_, d⟩⟩) (KpD.of_kp k₃)
    have it₂ : h''.IsListIter I ax (i + 1) := by
      obtain ⟨o, a, b, c⟩ := st'.1
      refine ⟨o, k₃ _ _ (fun q => ?_) a, b, c⟩
      obtain ⟨o', a', d'⟩ := hcell
      rw [← List.mem_singleton.mp q, a] at a'; cases a'; rw [c] at d'; cases d'
    have pl₂ : h''.IsList ax vs.toArray := by
      obtain ⟨o, a, b, n, c⟩ := st'.2
      refine ⟨o, k₃ _ _ (fun q => ?_) a, b, n, c⟩
      obtain ⟨o', a', d'⟩ := hcell
      rw [← List.mem_singleton.mp q, a] at a'; cases a'; rw [c] at d'; cases d'
    refine wpAny_noRaise (wpAny_mono (turn i v m₁ cm₁ { s₁ with heap := h'', toks := tk } hP j₃ B₃ (same₁.trans .of)) (fun f s₃ hf => ?_) fun _ _ z => z.elim)
    rcases f with _ | _ | _ | v'
    all_goals first
      | exact hf.elim
      | exact hf
      | (obtain ⟨m', cm', B', j', kd', same'⟩ := hf
         refine ⟨k - 1, by lia, i + 1, m', cm', by lia, j', B', ?_, ?_, same'⟩
         · obtain ⟨o, a, b, c⟩ := it₂
           exact ⟨o, kd' _ _ hIU (fun _ _ q => by rw [c] at q; cases q) a, b, c⟩
         · obtain ⟨o, a, b, n, c⟩ := pl₂
           exact ⟨o, kd' _ _ haU (fun _ _ q => by rw [c] at q; cases q) a, b, n, c⟩)
  · have : i = vs.length := by lia
    subst this
    refine Wk.done s₁ _ _ ⟨it₁, pl₁⟩ (fun h' tk hk => ?_)
    refine wpAny_execs_nil ?_
    exact fin m₁ cm₁ _ (stab I _ m₁ _ _ j io' (KpD.of_kp hk)) (B₁.new1 hWG hIL (soft_fields io) hk) (same₁.trans .of)
end
end Mine
end

section
open PySem PySem.W PySem.Calls PyProof.Rows PySem.Spec PySem.SeqAt PyProof.V
set_option Elab.async false
set_option maxRecDepth 100000
namespace Mine
section
variable {prog : Program} {w : World} {G : Heap}

theorem stab_plain' {I a : Addr} {its : Array Value} {h h' : Heap} (p : h.PlainList a its) (io : ∃ o, h.get? I = some o ∧ ((∃ fs, o.data = .fields fs) ∨ ∃ v, o.data = .cell v)) (k : KpD [I] h h') : h'.PlainList a its :=
  k.plain (fun q => by
    obtain ⟨o, e, d⟩ := io
    obtain ⟨n, e2⟩ := p
    rw [List.mem_singleton.mp q, e] at e2; cases e2
    rcases d with ⟨_, d⟩ | ⟨_, d⟩ <;> cases d) p

set_option maxHeartbeats 4000000 in
theorem often_meetsL (X : LG w G) {aF aO : Addr} {vs ws : List Value} (hv : ∀ v ∈ vs, VOk v) (hw : ∀ v ∈ ws, VOk v) (hp : (vs.map vkey).Perm (ws.map vkey)) (hlen : vs.length ≤ 1000) :
    MeetsL prog w G [] 40 160 (.ref 137) [.ref aF, .ref aO] (fun _ h => h.PlainList aF vs.toArray ∧ h.PlainList aO ws.toArray) (fun _ _ v _ => v = .bool true) := by
  refine hide fun gl9 hg9 => ?_
  obtain ⟨p, loose, mean, mg, mb, T⟩ := X.T
  refine hg9 ?_
  clear hg9 gl9
  refine meetsL_fnC (dep := 39) (un := 157) (f := 137) (binds := [("some", .ref aF), ("others", .ref aO)]) T.nolimit (fun fs h P hs b hb => by cases hb) (X.X _ _ (by rfl)) rfl (codeRec_of X.X (by kernel_rfl)) rfl (kindsX (by rfl)) rfl rfl rfl _ _ rfl rfl ?_
  intro A outer L h₀ s Qb Eb B P0 st hQ hP
  have T' := topRead_of T
  have hWG : ∀ b ∈ ([] : List Addr), G.get? b = none := fun b hb => by cases hb
  dsimp only at B hP ⊢
  obtain ⟨P1, P2⟩ := P0
  have hwl : ws.length = vs.length := by have := hp.length_eq; simpa using this.symm
  refine wpAny_execs_cons ?_
  refine wpAny_Assign_Name ?_
  refine Call_ ?_
  refine nameX_B B.fr X.X T' (by kernel_rfl) PyProof.Rows.boot_list (by decide) ?_
  refine PyProof.Rows.callWith_type1 ?_
  refine args_cons ?_
  refine nameX_L B.fr rfl ?_
  refine args_nil ?_
  refine bl_copy B (P2.at (st _)).isList (by lia) (fun aL h1 B1 p1 k1 l1 n1 => ?_)
  refine bl_store B1 (fun h2 B2 k2 => ?_)
  have p2 := (kpd_store B1.fr.ns k2).plain (by simp) p1
  have q2 := (kpd_store B1.fr.ns k2).plain (by simp) (P1.at fun o e => k1 _ _ (st _ _ e))
  refine wpAny_execs_cons ?_
  refine wpAny_For ?_
  refine nameX_L B2.fr rfl ?_
  refine bl_forListC (fun i m h => m "left" = some (.ref aL) ∧ ∃ rest, h.PlainList aL (List.toArray rest) ∧ (rest.map vkey).Perm ((vs.drop i).map vkey) ∧ ∀ v ∈ rest, VOk v) [aL] hWG B2 (cx := L + 1) (by rfl) q2.isList (fun b hb => ?_) ?_ ?_ ?_ ?_
  · rw [List.mem_singleton.mp hb]
    obtain ⟨n, e⟩ := p2
    obtain ⟨n', e'⟩ := P1
    exact ⟨fun q => (by rw [q, st _ _ e'] at n1; cases n1), _, e⟩
  · intro I i m h h' hJ9 io k
    refine hide fun gl9 hg9 => ?_
    obtain ⟨a1, rest, a2, a3⟩ := hJ9
    refine hg9 ?_
    clear hg9 gl9
    exact ⟨a1, rest, stab_plain' a2 io k, a3⟩
  · intro h' k
    exact ⟨rfl, ws, p2.at (k _), by rw [List.drop_zero]; exact hp.symm, hw⟩
  · intro i v m cm s' hi hJ9 B' same
    refine hide fun gl9 hg9 => ?_
    obtain ⟨a1, rest, a2, a3, a4⟩ := hJ9
    refine hg9 ?_
    clear hg9 gl9
    have hvv : VOk v := hv v (List.mem_of_getElem? hi)
    have hdrop : vs.drop i = v :: vs.drop (i + 1) := by
      obtain ⟨h1, h2⟩ := List.getElem?_eq_some_iff.mp hi
      rw [List.drop_eq_getElem_cons h1, h2]
    rw [hdrop] at a3
    have rl : rest.length ≤ 1000 := by have := a3.length_eq; rw [List.length_map, List.length_map, ← hdrop, List.length_drop] at this; lia
    refine wpAny_execs_cons ?_
    refine comp_pair_assign (fun i ys => ∃ ns : List Int, IntsAre ys ns ∧ (∀ n ∈ ns, ∃ j : Nat, n = j ∧ ∃ u, rest[j]? = some u ∧ vkey u = vkey v) ∧ ∀ j u, j < i → rest[j]? = some u → vkey u = vkey v → ns ≠ []) B'.hd (by rfl) (by rfl) (by rfl) (cl := [("one", L + 1)]) (by rfl) (by decide) rfl (by decide) (by rfl) (by rfl) (by decide) ?_
    refine Call_ ?_
    refine nameX_B B'.fr X.X T' (by kernel_rfl) boot_enumerate (by decide) ?_
    refine PyProof.Rows.callWith_type1 ?_
    refine args_cons ?_
    refine nameX_L B'.fr a1 ?_
    refine args_nil ?_
    refine call_enumerate_list a2.isList (fun h5 e5 i5 s5 k5 => ?_)
    have hLs : L < s'.heap.objs.size := B'.fr.ns.lt
    have haL : aL < s'.heap.objs.size := let ⟨n, e⟩ := a2; Heap.lt_size e
    have B5 := B'.grow k5
    have p5 := a2.at (k5 _)
    have c5 : h5.IsCell (L + 1) (some v) := by have := B5.cl.cell "one" (L + 1) (by rfl); simpa using this
    have Wk := WalksT.enumerate (prog := prog) (w := w) (A := A) B'.hd (s'.heap.objs.size + 1) s'.heap.objs.size aL (Nat.succ_ne_self _) (Nat.ne_of_lt (Nat.lt_succ_of_lt haL)) (Nat.ne_of_lt haL) rest.toArray
    have st5 : (∃ old, IsEnum h5 (s'.heap.objs.size + 1) s'.heap.objs.size ((0 : Nat) : Int) old) ∧ h5.IsListIter s'.heap.objs.size aL 0 ∧ h5.IsList aL rest.toArray := ⟨⟨_, e5⟩, i5, p5.isList⟩
    refine Wk.self 0 { s' with heap := h5, toks := _ } _ _ st5 ?_
    have c1w : L + 1 ≠ s'.heap.objs.size + 1 ∧ L + 1 ≠ s'.heap.objs.size := by
      refine ⟨fun q => Nat.lt_irrefl _ ((Nat.succ.inj q) ▸ hLs), fun q => ?_⟩
      obtain ⟨o, e, d⟩ := c5
      obtain ⟨o', e', _, d'⟩ := i5
      rw [q, e'] at e; cases e; rw [d] at d'; cases d'
    refine ⟨_, _, _, _, _, _, _, _, rfl, B5.fr.ns, ?_, Wk.toU, by rw [List.size_toArray]; lia, st5, fun b hb => ?_, ⟨[], .nil, fun n hn => (nomatch hn), fun j u hj => absurd hj (Nat.not_lt_zero _)⟩, ?_, ?_⟩
    · intro q
      rcases List.mem_cons.mp q with q | q
      · exact Nat.lt_irrefl _ (Nat.lt_trans (Nat.lt_succ_self _) ((show L = _ from q) ▸ hLs))
      · exact Nat.lt_irrefl _ ((show L = _ from List.mem_singleton.mp q) ▸ hLs)
    · show b < h5.objs.size
      rw [s5]
      simp only [List.mem_cons, List.not_mem_nil, or_false] at hb
      rcases hb with rfl | rfl | rfl
      · exact Nat.lt_succ_self _
      · exact Nat.lt_succ_of_lt (Nat.lt_succ_self _)
      · exact Nat.lt_succ_of_lt (Nat.lt_succ_of_lt haL)
    · rintro i' vals ys hi' ⟨t, x, hx, rfl⟩ ⟨ns, n1, n2, n3⟩
      have hx' : rest[i']? = some x := by simpa using hx
      have hxv : VOk x := a4 x (List.mem_of_getElem? hx')
      refine ⟨.int i' t, x, decide (vkey x = vkey v), .int i' t, rfl, ?_, ?_, ?_⟩
      · by_cases hk : vkey x = vkey v
        · simp only [hk, decide_true, if_true]
          refine ⟨ns ++ [(i' : Int)], n1.append (.cons _ _ .nil), fun n hn => ?_, fun j u hj hu hk' => by simp⟩
          rcases List.mem_append.mp hn with hn | hn
          · exact n2 n hn
          · exact ⟨i', List.mem_singleton.mp hn, x, hx', hk⟩
        · simp only [hk, decide_false, Bool.false_eq_true, if_false]
          refine ⟨ns, n1, n2, fun j u hj hu hk' => ?_⟩
          rcases Nat.lt_succ_iff_lt_or_eq.mp hj with hj | rfl
          · exact n3 j u hj hu hk'
          · rw [hx'] at hu; cases hu; exact absurd hk' hk
      · intro C s₃ m₃ E' ns3 ma mb kp
        refine wpAny_isTrue_Compare1 ?_
        refine wpAny_Name (wpAny_loadName_local (by rfl) (by rfl) ns3 mb ?_) (by decide)
        refine wpAny_Name (wpAny_loadName_cell (c := L + 1) (v := v) (by rfl) (by rfl) (by rfl) ?_ ?_) (by decide)
        · obtain ⟨o, e, d⟩ := c5
          refine ⟨o, kp _ _ (fun q => ?_) e, d⟩
          rcases List.mem_cons.mp q with q | q
          · exact c1w.1 q
          · exact c1w.2 (List.mem_singleton.mp q)
        · refine eq_vok hxv hvv ?_
          refine wpAny_truthy_bool ?_
          exact ⟨rfl, _, _, rfl, fun _ _ e => e⟩
      · intro _ C s₃ m₃ E' ns3 ma mb kp
        refine wpAny_Name (wpAny_loadName_local (by rfl) (by rfl) ns3 ma ?_) (by decide)
        exact ⟨rfl, _, _, rfl, fun _ _ e => e⟩
    · intro D h6 tk6 ys nD pD hJ9 hns hk6
      refine hide fun gl9 hg9 => ?_
      obtain ⟨ns, n1, n2, n3⟩ := hJ9
      refine hg9 ?_
      clear hg9 gl9
      have softU : Soft [] L [s'.heap.objs.size + 1, s'.heap.objs.size] h5 := fun b hb => by
        rcases List.mem_cons.mp hb with rfl | hb
        · exact .inr ⟨Nat.lt_succ_of_lt hLs, soft_fields ⟨_, _, e5, rfl⟩⟩
        · rw [List.mem_singleton.mp hb]
          obtain ⟨o, e, _, d⟩ := i5
          exact .inr ⟨hLs, soft_fields ⟨_, _, e, d⟩⟩
      have B6 := B5.stored hWG _ softU hns hk6
      have naL : aL ∉ [s'.heap.objs.size + 1, s'.heap.objs.size] := fun q => by
        rcases List.mem_cons.mp q with q | q
        · exact Nat.lt_irrefl _ (Nat.lt_trans (Nat.lt_succ_self _) (q ▸ haL))
        · exact Nat.lt_irrefl _ ((List.mem_singleton.mp q) ▸ haL)
      have p6 : h6.PlainList aL rest.toArray := p5.at fun o e => hk6 _ o (fun q => ns_ne_list B5.fr.ns p5 q.symm) naL e
      have nne : ns ≠ [] := by
        have hmem : vkey v ∈ rest.map vkey := a3.symm.subset (by simp)
        obtain ⟨u, hu, huk⟩ := List.mem_map.mp hmem
        obtain ⟨j, hj, hju⟩ := List.mem_iff_getElem.mp hu
        exact n3 j u (by simpa using hj) (by rw [List.getElem?_eq_getElem hj, hju]) huk
      obtain ⟨n0, nr, rfl⟩ : ∃ n0 nr, ns = n0 :: nr := by cases ns with | nil => exact absurd rfl nne | cons a b => exact ⟨a, b, rfl⟩
      obtain ⟨jn, rfl, u, hu, huk⟩ := n2 n0 (.head _)
      obtain ⟨hjl, hju⟩ := List.getElem?_eq_some_iff.mp hu
      refine wpAny_execs_cons ?_
      refine wpAny_If ?_
      refine wpAny_isTrue_Compare1 ?_
      refine nameX_L B6.fr (by rfl) ?_
      refine List_ ?_
      refine args_nil ?_
      refine bl_newList (s := { s' with heap := h6, toks := tk6 }) B6 (fun t7 h7 B7 p7 k7 l7 _ => ?_)
      refine eq_intsK (pD.at (k7 _)).isList n1 p7.isList .nil (by have := B7.un; lia) ?_
      refine wpAny_truthy_bool ?_
      simp only [List.cons_ne_nil, reduceCtorEq, decide_false, Bool.false_eq_true, ↓reduceIte]
      refine wpAny_execs_nil ?_
      refine wpAny_execs_cons ?_
      refine wpAny_Expr ?_
      refine MethodCall_ ?_
      refine nameX_L B7.fr a1 ?_
      have hsplit : rest = rest.take jn ++ u :: rest.drop (jn + 1) := by rw [← hju, ← List.drop_eq_getElem_cons hjl, List.take_append_drop]
      have p7' : h7.PlainList aL (rest.take jn ++ u :: rest.drop (jn + 1)).toArray := by rw [← hsplit]; exact p6.at (k7 _)
      refine meth_plain p7' PySem.F.slot_list_pop PySem.F.type_list_pop ?_
      refine callWith_method1 ?_
      refine args_cons ?_
      refine Subscript_ ?_
      refine nameX_L B7.fr (by rfl) ?_
      refine wpAny_Constant_int ?_
      obtain ⟨t0, yr, rfl⟩ : ∃ t0 yr, ys = .int (jn : Int) t0 :: yr := by cases n1 with | cons a b c => exact ⟨_, _, rfl⟩
      refine item_listL (pD.at (k7 _)).isList (by decide) (by decide) rfl ?_
      refine args_nil ?_
      refine popAt_plain p7' (by rw [List.length_take, List.length_drop, sizeLine_eq]; lia) (by rw [List.length_take]; lia) (fun h8 p8 hs8 => ?_)
      have uok : VOk u := a4 u (List.mem_of_getElem? hu)
      have fin : ∀ tk, ∃ m' cm', Bl G [] A outer _ L _ h₀ 39 157 m' cm' h8 ∧ (m' "left" = some (.ref aL) ∧ ∃ rest, h8.PlainList aL (List.toArray rest) ∧ (rest.map vkey).Perm ((vs.drop (i + 1)).map vkey) ∧ ∀ v ∈ rest, VOk v) ∧ KpD [aL] s'.heap h8 ∧ Same _ { s' with heap := h8, toks := tk } := fun tk => by
        refine ⟨_, _, B7.softly [aL] (fun b hb => by rw [List.mem_singleton.mp hb]; exact .inr ⟨l1, soft_plain p7'⟩) hWG (KpL.of_kp (fun b o hb e => (hs8.2 b (fun q => hb (q ▸ List.mem_singleton.mpr rfl))).trans e)), ⟨a1, rest.take jn ++ rest.drop (jn + 1), p8, ?_, fun v hv' => ?_⟩, ?_, same.trans .of⟩
        · have h1 : (rest.map vkey).Perm (vkey u :: (rest.take jn ++ rest.drop (jn + 1)).map vkey) := by
            conv => lhs; rw [hsplit]
            rw [List.map_append, List.map_cons, List.map_append]
            exact List.perm_middle
          rw [List.map_cons] at a3
          rw [huk] at h1
          exact List.Perm.cons_inv (h1.symm.trans a3)
        · rcases List.mem_append.mp hv' with hv' | hv'
          · exact a4 v (List.mem_of_mem_take hv')
          · exact a4 v (List.mem_of_mem_drop hv')
        · intro b o hb d e
          refine (hs8.2 b (fun q => hb (q ▸ List.mem_singleton.mpr rfl))).trans (k7 _ _ (hk6 b o (fun q => ?_) (fun q => ?_) (k5 _ _ e)))
          · obtain ⟨o', es, ep, e', hd, _⟩ := B'.fr.ns
            rw [show b = L from q, e'] at e; cases e; exact d _ _ hd
          · have hlt := Heap.lt_size e
            rcases List.mem_cons.mp q with q | q
            · exact Nat.lt_irrefl _ (Nat.lt_trans (Nat.lt_succ_self _) (q ▸ hlt))
            · exact Nat.lt_irrefl _ ((List.mem_singleton.mp q) ▸ hlt)
      rcases uok with ⟨_, _, rfl⟩ | ⟨_, rfl⟩ | ⟨_, rfl⟩
      · dsimp only
        refine wpAny_execs_nil ?_
        exact fin _
      · dsimp only
        refine wpAny_execs_nil ?_
        exact fin _
      · dsimp only
        refine wpAny_execs_nil ?_
        exact fin _
  · intro m cm s' hJ9 B' same
    refine hide fun gl9 hg9 => ?_
    obtain ⟨a1, rest, a2, a3, a4⟩ := hJ9
    refine hg9 ?_
    clear hg9 gl9
    obtain ⟨hh, tt, rfl⟩ := same
    have hr : rest = [] := by
      have := a3.length_eq
      rw [List.drop_of_length_le (Nat.le_refl _)] at this
      simpa using this
    subst hr
    refine wpAny_execs_cons ?_
    refine wpAny_Return_some ?_
    refine wpAny_Compare1 ?_
    refine nameX_L B'.fr a1 ?_
    refine List_ ?_
    refine args_nil ?_
    refine bl_newList B' (fun t4 h4 B4 p4 k4 l4 _ => ?_)
    refine eq_dataH_same (reads_bools (bs := []) (a2.at (k4 _))) (reads_bools (bs := []) p4) (shaped_bools []) (shaped_bools []) (by have := B4.un; lia) (by rfl) ?_
    exact hQ (.ret (.bool true)) h4 _ B4.fr.keep B4.kp rfl
end
end Mine
end

section
open PySem PySem.W PySem.Calls PyProof.Rows PySem.Spec PySem.SeqAt PyProof.V
set_option Elab.async false
set_option maxRecDepth 100000
namespace Mine
section
variable {prog : Program} {w : World} {G : Heap}

/-- what a finding sorted by a kind is -/
def OrdBy (kind : Int) (ns : List Int) : Prop := (kind = 0 → ns.Pairwise (· ≤ ·)) ∧ (kind = 1 → ns.Pairwise (· ≥ ·)) ∧ (kind = 2 → ns.Pairwise fun a b => a.fmod 4 ≤ b.fmod 4)

theorem callKw {M : Model} {A : Around} {E : Value → Shared → Prop} {s : Shared} {env : Env} {func : Expr} {args : List Expr} {kws : List Keyword} {pos : Pos} {Q : Value → Shared → Prop}
    (h : wpAny M A (eval func env) (fun f s₁ => wpAny M A (callWith pos f [] (backTo pos (starEach args env)) (backToKw pos (keywordEach kws env))) Q E s₁) E s)
    (hf : eval (.Call func args kws pos) env = (eval func env >>= fun f => callWith pos f [] (backTo pos (starEach args env)) (backToKw pos (keywordEach kws env))) := by rfl) :
    wpAny M A (eval (.Call func args kws pos) env) Q E s := by rw [hf]; exact wpAny_bind h

theorem perm_ord {b : Bool} {ns ms : List Int} (p : ns.Perm ms) (x : Ordered b ns) (y : Ordered b ms) : ns = ms := by
  cases b with
  | false => exact List.Perm.eq_of_pairwise (fun a b _ _ h1 h2 => Int.le_antisymm h1 h2) (by simpa [Ordered] using x) (by simpa [Ordered] using y) p
  | true => exact List.Perm.eq_of_pairwise (fun a b _ _ h1 h2 => Int.le_antisymm h2 h1) (by simpa [Ordered] using x) (by simpa [Ordered] using y) p

theorem ints_at {vs : List Value} {ns : List Int} (x : IntsAre vs ns) : ∀ {i : Nat} {v : Value}, vs[i]? = some v → ∃ a t, v = .int a t ∧ ns[i]? = some a := by
  induction x with
  | nil => intro i v h; cases h
  | cons n t _ ih =>
    intro i v h
    cases i with
    | zero => cases h; exact ⟨_, _, rfl, rfl⟩
    | succ i => exact ih (by simpa using h)

set_option maxHeartbeats 4000000 in
theorem sorted_meetsL (X : LG w G) {aF : Addr} {vs : List Value} {ns : List Int} {kind : Int} {tk : Tok} (hi : IntsAre vs ns) (hlen : ns.length ≤ 24) (hk : 0 ≤ kind ∧ kind ≤ 2) (ho : OrdBy kind ns) :
    MeetsL prog w G [] 40 160 (.ref 142) [.ref aF, .int kind tk] (fun _ h => h.PlainList aF vs.toArray) (fun _ _ v _ => v = .bool true) := by
  refine hide fun gl9 hg9 => ?_
  obtain ⟨p, loose, mean, mg, mb, T⟩ := X.T
  refine hg9 ?_
  clear hg9 gl9
  refine meetsL_fn (dep := 39) (un := 157) (f := 142) (binds := [("found", .ref aF), ("kind", .int kind tk)]) T.nolimit (fun fs h P hs b hb => by cases hb) (X.X _ _ (by rfl)) rfl (codeRec_of X.X (by kernel_rfl)) rfl (locs rfl) (by decide) rfl rfl rfl ?_
  intro A outer L h₀ s Qb Eb B P1 st hQ hP
  have T' := topRead_of T
  have hWG : ∀ b ∈ ([] : List Addr), G.get? b = none := fun b hb => by cases hb
  dsimp only at B hP ⊢
  have hvl := hi.length
  have pF := P1.at (st _)
  refine wpAny_execs_cons ?_
  refine wpAny_If ?_
  refine wpAny_isTrue_Compare1 ?_
  refine nameX_L B.fr rfl ?_
  refine wpAny_Constant_int ?_
  refine PyProof.Rows.eq_int ?_
  refine wpAny_truthy_bool ?_
  by_cases h2 : kind = 2
  · have e2 : (kind == 2) = true := by rw [h2]; rfl
    simp only [e2, ↓reduceIte]
    refine wpAny_execs_cons ?_
    refine wpAny_Return_some ?_
    refine wpAny_Compare1 ?_
    refine comp_pair (fun _ ys => ys = []) B.hd (cl := []) (by rfl) (by decide) rfl (by decide) (by rfl) (by rfl) (by decide) ?_
    refine Call_ ?_
    refine nameX_B B.fr X.X T' (by kernel_rfl) PyProof.Rows.boot_zip (by decide) ?_
    refine PyProof.Rows.callWith_type1 ?_
    refine args_cons ?_
    refine nameX_L B.fr rfl ?_
    refine args_cons ?_
    refine Subscript_ ?_
    refine nameX_L B.fr rfl ?_
    refine wpAny_Slice ?_
    refine wpAny_evalPart_some ?_
    refine wpAny_Constant_int ?_
    refine wpAny_evalPart_none ?_
    refine wpAny_evalPart_none ?_
    refine bl_slice (s := { s with toks := _ }) B pF.isList (.int 1 _) .none (by lia) (fun aD h3 B3 p3 k3 l3 n3 => ?_)
    have hi3 := kmk_from (x := 1) hi (by decide)
    generalize hz : (slicePick vs.toArray (some 1) none none).toList = zs at hi3
    have hz' : slicePick vs.toArray (some 1) none none = zs.toArray := by rw [← hz]
    rw [hz'] at p3
    refine args_nil ?_
    have pF3 := pF.at (k3 _)
    refine call_zip_2 pF3.isList p3.isList (fun h4 z1 z2 z3 z4 z5 z6 k4 => ?_)
    refine wpAny_pyIter_zip z1 ?_
    have hF3 : aF < h3.objs.size := let ⟨n, e⟩ := pF3; Heap.lt_size e
    have hD3 : aD < h3.objs.size := let ⟨n, e⟩ := p3; Heap.lt_size e
    have hL3 : L < h3.objs.size := B3.fr.ns.lt
    have Wk := WalksT.zip2 (prog := prog) (w := w) (A := A) B.hd _ _ _ _ _ _ _ (ktu_apart h3.objs.size aF aD hF3 hD3) vs.toArray zs.toArray
    have B4 := B3.grow k4
    refine ⟨_, _, _, _, _, _, _, rfl, Wk.toU, Nat.le_trans (Nat.min_le_left _ _) (by rw [List.size_toArray]; lia), ⟨z1, z2, ⟨_, _, z3⟩, z4, z5, pF3.isList.at fun o e => k4 _ _ e, p3.isList.at fun o e => k4 _ _ e⟩, fun b hb => ?_, rfl, ?_, ?_⟩
    · show b < h4.objs.size
      rw [z6]
      simp only [List.mem_cons, List.not_mem_nil, or_false] at hb
      rcases hb with rfl | rfl | rfl | rfl | rfl | rfl | rfl
      · exact Nat.lt_succ_self _
      · exact Nat.lt_add_of_pos_right (k := 3) (by decide)
      · exact Nat.lt_add_of_pos_right (k := 2) (by decide)
      · exact Nat.lt_add_of_pos_right (k := 5) (by decide)
      · exact Nat.lt_add_of_pos_right (k := 4) (by decide)
      · exact Nat.lt_of_lt_of_le hF3 (Nat.le_add_right _ _)
      · exact Nat.lt_of_lt_of_le hD3 (Nat.le_add_right _ _)
    · rintro i vals ys hi' ⟨x, y, hx, hy, rfl⟩ rfl
      obtain ⟨a, ta, rfl, ha⟩ := ints_at hi (i := i) (v := x) (by simpa using hx)
      obtain ⟨b, tb, rfl, hb⟩ := ints_at hi3 (i := i) (v := y) (by simpa using hy)
      have hb' : ns[i + 1]? = some b := by
        rw [List.getElem?_drop] at hb
        rw [Nat.add_comm]; exact hb
      obtain ⟨g1, g2⟩ := List.getElem?_eq_some_iff.mp ha
      obtain ⟨g3, g4⟩ := List.getElem?_eq_some_iff.mp hb'
      have hab : a.fmod 4 ≤ b.fmod 4 := by
        have := List.pairwise_iff_getElem.mp (ho.2.2 h2) i (i + 1) g1 g3 (Nat.lt_succ_self i)
        rw [g2, g4] at this; exact this
      refine ⟨.int a ta, .int b tb, false, .none, rfl, by simp, ?_, fun q => by cases q⟩
      intro C s₃ m₃ E' ns3 ma mb kp
      refine wpAny_isTrue_Compare1 ?_
      refine wpAny_BinOp ?_
      refine wpAny_Name (wpAny_loadName_local (by rfl) (by rfl) ns3 mb ?_) (by decide)
      refine wpAny_Constant_int ?_
      refine PyProof.Rows.mod_int (by decide) ?_
      refine wpAny_BinOp ?_
      refine wpAny_Name (wpAny_loadName_local (by rfl) (by rfl) ns3 ma ?_) (by decide)
      refine wpAny_Constant_int ?_
      refine PyProof.Rows.mod_int (by decide) ?_
      refine PyProof.Rows.lt_int ?_
      refine wpAny_truthy_bool ?_
      refine ⟨by rw [decide_eq_false_iff_not]; lia, _, _, rfl, fun _ _ e => e⟩
    · rintro D h6 tk6 ys nD pD rfl hk6
      have softU : Soft [] L [h3.objs.size + 4, h3.objs.size + 3, h3.objs.size, h3.objs.size + 1] h4 := fun b hb => by
        simp only [List.mem_cons, List.not_mem_nil, or_false] at hb
        rcases hb with rfl | rfl | rfl | rfl
        · exact .inr ⟨Nat.lt_of_lt_of_le hL3 (Nat.le_add_right _ _), soft_fields ⟨_, _, z1, rfl⟩⟩
        · exact .inr ⟨Nat.lt_of_lt_of_le hL3 (Nat.le_add_right _ _), ⟨_, z3, fun _ _ q => (nomatch q), fun _ q => (nomatch q)⟩⟩
        · obtain ⟨o, e, _, d⟩ := z4
          exact .inr ⟨hL3, soft_fields ⟨_, _, e, d⟩⟩
        · obtain ⟨o, e, _, d⟩ := z5
          exact .inr ⟨Nat.lt_of_lt_of_le hL3 (Nat.le_add_right _ _), soft_fields ⟨_, _, e, d⟩⟩
      have B6 := B4.softly _ softU hWG (KpL.of_kp hk6)
      refine List_ ?_
      refine args_nil ?_
      refine bl_newList (s := { s with heap := h6, toks := tk6 }) B6 (fun t7 h7 B7 p7 k7 l7 _ => ?_)
      refine eq_intsK (pD.at (k7 _)).isList .nil p7.isList .nil (by have := B7.un; lia) ?_
      simp only [decide_true]
      exact hQ (.ret (.bool true)) _ _ B7.fr.keep B7.kp rfl
  · have e2 : (kind == 2) = false := by simpa using h2
    simp only [e2, Bool.false_eq_true, ↓reduceIte]
    refine wpAny_execs_nil ?_
    refine wpAny_execs_cons ?_
    refine wpAny_Return_some ?_
    refine wpAny_Compare1 ?_
    refine nameX_L B.fr rfl ?_
    refine callKw ?_
    refine nameX_B B.fr X.X T' (by kernel_rfl) PyProof.Rows.boot_sorted (by decide) ?_
    refine callWith_kw ?_
    refine args_cons ?_
    refine nameX_L B.fr rfl ?_
    refine args_nil ?_
    refine kws_cons ?_
    refine wpAny_Compare1 ?_
    refine nameX_L B.fr rfl ?_
    refine wpAny_Constant_int ?_
    refine PyProof.Rows.eq_int ?_
    refine kws_nil ?_
    refine sorted_ints_rev pF.isList hi (by lia) (fun out ns' o1 o2 o3 => ?_)
    obtain ⟨e, he⟩ := sortedAll_at s.heap vs out
    have kk : s.heap.StaysIn (sortedAll s.heap vs out) := fun _ _ => sortedAll_old
    have B2 := B.grow kk
    have eqn : ns' = ns := by
      refine perm_ord o2 o3 ?_
      have hk' : kind = 0 ∨ kind = 1 := by lia
      rcases hk' with rfl | rfl
      · exact ho.1 rfl
      · exact ho.2.1 rfl
    subst eqn
    refine eq_intsK (pF.at (kk _)).isList hi (vs := vs) (us := out.toList) (ns := ns') (ms := ns') ⟨_, he, rfl, _, rfl⟩ o1 (by have := B2.un; lia) ?_
    simp only [decide_true]
    exact hQ (.ret (.bool true)) _ _ B2.fr.keep B2.kp rfl
end
end Mine
end

section
open PySem PySem.W PySem.Calls PyProof.Rows PySem.Spec PySem.SeqAt PyProof.V
set_option Elab.async false
set_option maxRecDepth 100000
namespace Mine
section
variable {prog : Program} {w : World} {G : Heap} {W : List Addr} {A : Around} {outer : List Env} {env : Env} {L a : Addr} {cells : List (Str × Addr)} {h₀ h h' : Heap} {dep un : Nat} {m m' cm : Str → Option Value} {E : Value → Shared → Prop} {s : Shared} {cn : Str} {cs : Scope} {ccd : Value} {cl : List (Str × Addr)}

/-- [v] * n -/
theorem bl_mul1 {l : Addr} {v : Value} {x : Int} {u : Tok} {Q : Value → Shared → Prop} (B : Bl G W A outer env L cells h₀ dep un m cm s.heap) (pl : s.heap.PlainList l #[v]) (hx : -100 ≤ x ∧ x ≤ 100)
    (h : ∀ D h', Bl G W A outer env L cells h₀ dep un m cm h' → h'.PlainList D (List.replicate x.toNat v).toArray → s.heap.StaysIn h' → L < D → s.heap.get? D = none → Q (.ref D) { s with heap := h' }) : wpAny (model prog w) A (binaryOp .Mult (.ref l) (.int x u)) Q E s := by
  obtain ⟨k, hl⟩ := pl
  refine wpAny_binaryOp_repeat_ref (T := "list") (U := "int") (by decide) ⟨_, hl, rfl⟩ (fun s' => typeIs_int s' x u) noFill_list_mul F.fills_int_mul F.slot_int_rmul repeat_list F.slot_int_index.lookup
    (call_meets F.slot_int_rmul (typeIs_int s x u) F.entry_int_rmul (F.args_int_rmul_2 _ _) (int___rmul___int_list x u l _ k)
      ⟨hl, rfl, ⟨_, hl, rfl⟩, call_meets F.slot_list_mul ⟨_, hl, rfl⟩ F.entry_list_mul (F.args_list_mul_2 _ _)
        (AutoListH.list___mul___list_int_3 l #[v] k x u (by simp [Builtin.List.listFitsIndex]; lia) (by show ¬ (1 * x.toNat > _); lia) (by simp [Builtin.List.listTooLong, sizeLine]; lia))
        ⟨hl, ?_⟩⟩)
  have e : List.foldl (fun x1 x2 => x1 ++ x2) #[] (List.replicate (if (#[v] : Array Value).isEmpty = true then 0 else x.toNat) #[v]) = (List.replicate x.toNat v).toArray := by
    rw [listMul_foldl]
    show ([] ++ (List.replicate x.toNat [v]).flatten).toArray = _
    rw [List.nil_append, lm_rep_flat_one]
  rw [e]
  exact h _ _ (B.grow fun _ _ e => Heap.get?_push_of_some _ e) ⟨_, Heap.get?_push_size _ rfl⟩ (fun _ _ e => Heap.get?_push_of_some _ e) B.fr.ns.lt (Heap.get?_none_of_le (Nat.le_refl _))

/-- for x in a tuple -/
theorem bl_forTuple {x : Str} {px : Pos} {body : List Stmt} {ax : Addr} {vs : List Value} {R : Result → Shared → Prop} {E' : Value → Shared → Prop} (J : Nat → (Str → Option Value) → Heap → Prop) (U : List Addr) (hWG : ∀ b ∈ W, G.get? b = none)
    (B : Bl G W A outer env L cells h₀ dep un m cm s.heap) (pl : IsTup s.heap ax vs.toArray) (hU : ∀ b ∈ U, b ≠ ax ∧ ∃ o, s.heap.get? b = some o)
    (stab : ∀ I i m h h', L < I → J i m h → IsItr h I → KpD [I] h h' → J i m h') (j0 : ∀ h', s.heap.StaysIn h' → J 0 m h')
    (turn : ∀ i v m s', vs[i]? = some v → J i m s'.heap → Bl G W A outer env L cells h₀ dep un (fun y => if y = x then some v else m y) cm s'.heap → Same s s' →
      wpAny (model prog w) A (execs body env) (fun f s₃ => match f with
        | .next | .cont => ∃ m', Bl G W A outer env L cells h₀ dep un m' cm s₃.heap ∧ J (i + 1) m' s₃.heap ∧ KpD U s'.heap s₃.heap ∧ Same s s₃
        | .brk => False
        | .ret v => R (.ok (.ret v)) s₃) (fun _ _ => False) s')
    (fin : ∀ m s', J vs.length m s'.heap → Bl G W A outer env L cells h₀ dep un m cm s'.heap → Same s s' → KpD U s.heap s'.heap → R (.ok .next) s')
    (hx : env.kindOf x = some .local := by rfl) (ht : ∀ I v, letOwnedTupleGo (.Name x px) (.ref I) v = pure () := by intro _ _; rfl) :
    wpAny (model prog w) A (pyIter (.ref ax)) (fun it s₂ => codeAny (model prog w) A (.forLoop (.Name x px) it body [] env) R s₂) E' s := by
  have pl' : s.heap.IsTuple ax vs.toArray := pl
  refine hide fun gl9 hg9 => ?_
  obtain ⟨o, e, hc, n, hd⟩ := id pl
  refine hg9 ?_
  clear hg9 gl9
  have hne : ax ≠ s.heap.objs.size := Nat.ne_of_lt (Heap.lt_size e)
  refine wpAny_pyIter_tuple pl' ?_
  have k : s.heap.StaysIn (s.heap.push { cls := .type "tuple_iterator", data := .fields #[.ref ax, .int 0 0] }) := fun b o e => Heap.get?_push_of_some _ e
  have Wk : Walks prog w A s.heap.objs.size [s.heap.objs.size, ax] [s.heap.objs.size] vs.length (fun i v => vs[i]? = some v) (fun i h => h.IsTupleIter s.heap.objs.size ax i ∧ h.IsTuple ax vs.toArray) := by
    have := Walks.tuple (prog := prog) (w := w) B.hd s.heap.objs.size ax hne vs.toArray
    simpa using this
  have hIL : L < s.heap.objs.size := B.fr.ns.lt
  refine bl_for (s := { s with heap := s.heap.push { cls := .type "tuple_iterator", data := .fields #[.ref ax, .int 0 0] } }) Wk J U hWG (B.grow k) ⟨⟨_, Heap.get?_push_size _ rfl, rfl, rfl⟩, let ⟨o, e, r⟩ := pl'; ⟨o, k _ _ e, r⟩⟩ B.fr.ns.lt (fun i h st => let ⟨o, a, _, c⟩ := st.1; ⟨o, _, a, c, fun q t z => (by simp at z)⟩) (fun b hb q => ?_) (fun i h st b hb o' e' es n q => ?_) (fun i m h h' j => stab _ i m h h' hIL j) (j0 _ k) (fun i v m s' _ hv j B' same => turn i v m s' hv j B' ?_) (fun m s' j B' same kd => fin m s' j B' ?_ (fun b o hb d e => kd b o (fun q => (List.mem_cons.mp q).elim (fun q => (by rw [q, Heap.get?_none_of_le (Nat.le_refl _)] at e; cases e)) hb) d (k _ _ e))) hx (ht _)
  · obtain ⟨q1, o', e'⟩ := hU b q
    rcases List.mem_cons.mp hb with rfl | hb
    · rw [Heap.get?_none_of_le (Nat.le_refl _)] at e'; cases e'
    · exact q1 (List.mem_singleton.mp hb)
  · rcases List.mem_cons.mp hb with rfl | hb
    · obtain ⟨⟨o'', a, _, c⟩, _⟩ := st; rw [a] at e'; cases e'; rw [c] at q; cases q
    · rw [List.mem_singleton.mp hb] at e'
      obtain ⟨_, o'', a, _, _, c⟩ := st; rw [a] at e'; cases e'; rw [c] at q; cases q
  · exact Same.trans ⟨_, _, rfl⟩ same
  · exact Same.trans ⟨_, _, rfl⟩ same
end
end Mine
end

section
open PySem PySem.W PySem.Calls PyProof.Rows PySem.Spec PySem.SeqAt PyProof.V
set_option Elab.async false
set_option maxRecDepth 100000
namespace Mine

abbrev row0 (n : Nat) : List Bool := List.replicate (n + 2) true
abbrev row1 (n : Nat) : List Bool := List.replicate 4 false ++ List.replicate (n - 1) true

section
variable {prog : Program} {w : World} {G : Heap}

set_option maxHeartbeats 8000000 in
theorem ends_meetsL (X : LG w G) {aX : Addr} {ivs : List Value} {ns : List Int} {nn k : Nat} (hi : IntsAre ivs ns) (h6 : ns.length ≤ 6) (hk : k ≤ 150)
    (Hr : ∀ bs, bs = row0 ns.length ∨ bs = row1 ns.length → ∀ t u, tSort tlRow nn k 1 ns.length (fun _ _ => ns.length < 4) (fun _ => ¬ ns.length < 4) (sg0 ivs bs t u)) :
    MeetsL prog w G [113, 120] 230 2200 (.ref 132) [.ref aX] (fun _ h => h.PlainList aX ivs.toArray ∧ TabQ wRun 113 h ∧ TabQ wTold 120 h ∧ G.get? aX = none ∧ aX ∉ Wt) (fun _ _ v h' => v = .bool true ∧ TabQ wRun 113 h' ∧ TabQ wTold 120 h') := by
  refine hide fun gl9 hg9 => ?_
  obtain ⟨p, loose, mean, mg, mb, T⟩ := X.T
  refine hg9 ?_
  clear hg9 gl9
  refine meetsL_fn (dep := 229) (un := 2197) (f := 132) (binds := [("some", .ref aX)]) T.nolimit (fun fs h P hs b hb => ?_) (X.X _ _ (by rfl)) rfl (codeRec_of X.X (by kernel_rfl)) rfl (locs rfl) (by decide) rfl rfl rfl ?_
  · obtain ⟨_, ⟨ps, e, _⟩, ⟨ps', e', _⟩, _⟩ := P
    rcases List.mem_cons.mp hb with rfl | hb
    · exact Heap.lt_size e
    · rw [List.mem_singleton.mp hb]; exact Heap.lt_size e'
  intro A outer L h₀ s Qb Eb B P0 st hQ hP
  have T' := topRead_of T
  have hWG : ∀ b ∈ [113, 120], G.get? b = none := fun b hb => by
    rcases List.mem_cons.mp hb with rfl | hb
    · exact X.hid _ (by simp)
    · rw [List.mem_singleton.mp hb]; exact X.hid _ (by simp)
  dsimp only at B hP ⊢
  have lowX : ∀ x, L ≤ x → ∀ b ∈ Wt, x ≠ b := fun x hx b hb q => Nat.lt_irrefl _ (Nat.lt_of_lt_of_le (X.sz b hb) (Nat.le_trans B.fr.above (q ▸ hx)))
  have lowW : ∀ x, L ≤ x → x ∉ Wt := fun x hx q => lowX x hx x q rfl
  refine hide fun gl9 hg9 => ?_
  obtain ⟨P1, P2, P3, P4, P5⟩ := P0
  refine hg9 ?_
  clear hg9 gl9
  have hvl := hi.length
  have pX := P1.at (st _)
  refine wpAny_execs_cons ?_
  refine wpAny_Assign_Name ?_
  refine Call_ ?_
  refine nameX_B B.fr X.X T' (by kernel_rfl) boot_len (by decide) ?_
  refine PyProof.Rows.callWith_builtin1 ?_
  refine args_cons ?_
  refine nameX_L B.fr rfl ?_
  refine args_nil ?_
  refine call_len_list pX.isList (by rw [List.size_toArray]; lia) ?_
  have elen : ((ivs.toArray.size : Nat) : Int) = (ns.length : Int) := by rw [List.size_toArray, hvl]
  rw [elen]
  refine bl_store (s := { s with toks := _ }) B (fun h1 B1 k1 => ?_)
  have kd1 : KpD [] s.heap h1 := kpd_store B.fr.ns k1
  have pX1 := kd1.plain (by simp) pX
  have tr1 : TabQ wRun 113 h1 := (P2.keeps st).kpd kd1 (by simp) (by simp)
  have tt1 : TabQ wTold 120 h1 := (P3.keeps st).kpd kd1 (by simp) (by simp)
  refine wpAny_execs_cons ?_
  refine wpAny_For ?_
  refine Tuple_ ?_
  refine args_cons ?_
  refine wpAny_BinOp ?_
  refine List_ ?_
  refine args_cons ?_
  refine PyProof.Rows.Constant_bool ?_
  refine args_nil ?_
  refine bl_newList (s := { s with heap := h1, toks := _ }) B1 (fun l1 h2 B2 p2 k2 _ _ => ?_)
  refine wpAny_BinOp ?_
  refine nameX_L B2.fr rfl ?_
  refine wpAny_Constant_int ?_
  refine PyProof.Rows.add_int ?_
  refine bl_mul1 (s := { s with heap := h2, toks := _ }) B2 p2 (by lia) (fun r0 h3 B3 p3 k3 lr0 _ => ?_)
  refine args_cons ?_
  refine wpAny_BinOp ?_
  refine wpAny_BinOp ?_
  refine List_ ?_
  refine args_cons ?_
  refine PyProof.Rows.Constant_bool ?_
  refine args_nil ?_
  refine bl_newList (s := { s with heap := h3, toks := _ }) B3 (fun l4 h4 B4 p4 k4 _ _ => ?_)
  refine wpAny_Constant_int ?_
  refine bl_mul1 (s := { s with heap := h4, toks := _ }) B4 p4 (by decide) (fun r4 h5 B5 p5 k5 _ _ => ?_)
  refine wpAny_BinOp ?_
  refine List_ ?_
  refine args_cons ?_
  refine PyProof.Rows.Constant_bool ?_
  refine args_nil ?_
  refine bl_newList (s := { s with heap := h5, toks := _ }) B5 (fun l6 h6' B6 p6 k6 _ _ => ?_)
  refine wpAny_BinOp ?_
  refine nameX_L B6.fr rfl ?_
  refine wpAny_Constant_int ?_
  refine PyProof.Rows.sub_int ?_
  refine bl_mul1 (s := { s with heap := h6', toks := _ }) B6 p6 (by lia) (fun r7 h7 B7 p7 k7 _ _ => ?_)
  refine bl_add (s := { s with heap := h7, toks := _ }) B7 ((p5.at (k6 _)).at (k7 _)) p7 (by rw [List.length_replicate, List.length_replicate]; lia) (fun r1 h8 B8 p8 k8 lr1 nr1 => ?_)
  refine args_nil ?_
  refine bl_newTuple (s := { s with heap := h8, toks := _ }) B8 (fun aT h9 B9 it9 k9 lT => ?_)
  have k19 : ∀ b o, h1.get? b = some o → h9.get? b = some o := fun b o e => k9 _ _ (k8 _ _ (k7 _ _ (k6 _ _ (k5 _ _ (k4 _ _ (k3 _ _ (k2 _ _ e)))))))
  have pr0 : h9.PlainList r0 ((row0 ns.length).map Value.bool).toArray := by
    have e : ((ns.length : Int) + 2).toNat = ns.length + 2 := by lia
    rw [e] at p3
    rw [List.map_replicate]
    exact p3.at fun o e => k9 _ _ (k8 _ _ (k7 _ _ (k6 _ _ (k5 _ _ (k4 _ _ e)))))
  have pr1 : h9.PlainList r1 ((row1 ns.length).map Value.bool).toArray := by
    have e : ((ns.length : Int) - 1).toNat = ns.length - 1 := by lia
    rw [e] at p8
    rw [List.map_append, List.map_replicate, List.map_replicate]
    exact p8.at (k9 _)
  refine bl_forTuple (fun i m h => m "some" = some (.ref aX) ∧ (∃ t, m "many" = some (.int ns.length t)) ∧ h.PlainList aX ivs.toArray ∧ h.PlainList r0 ((row0 ns.length).map Value.bool).toArray ∧ h.PlainList r1 ((row1 ns.length).map Value.bool).toArray ∧ TabQ wRun 113 h ∧ TabQ wTold 120 h) [113, 120] hWG B9 it9 (fun b hb => ?_) ?_ ?_ ?_ ?_
  · have hbW : b ∈ Wt := by
      rcases List.mem_cons.mp hb with rfl | hb
      · simp
      · rw [List.mem_singleton.mp hb]; simp
    refine ⟨fun q => lowX aT (Nat.le_of_lt lT) b hbW q.symm, ?_⟩
    rcases List.mem_cons.mp hb with rfl | hb
    · obtain ⟨ps, e, _⟩ := tr1; exact ⟨_, k19 _ _ e⟩
    · rw [List.mem_singleton.mp hb]; obtain ⟨ps, e, _⟩ := tt1; exact ⟨_, k19 _ _ e⟩
  · intro I i m h h' hI hJ9 io kk
    refine hide fun gl9 hg9 => ?_
    obtain ⟨a1, a2, a3, a4, a5, a6, a7⟩ := hJ9
    refine hg9 ?_
    clear hg9 gl9
    exact ⟨a1, a2, stab_plain a3 io kk, stab_plain a4 io kk, stab_plain a5 io kk, a6.itr io kk (fun q => lowX I (Nat.le_of_lt hI) 113 (by simp) q.symm), a7.itr io kk (fun q => lowX I (Nat.le_of_lt hI) 120 (by simp) q.symm)⟩
  · intro h' kk
    exact ⟨rfl, ⟨_, rfl⟩, (pX1.at (k19 _)).at (kk _), pr0.at (kk _), pr1.at (kk _), (tr1.keeps k19).keeps kk, (tt1.keeps k19).keeps kk⟩
  · intro i v m s' hv hJ B' same
    refine hide fun gl hg => ?_
    obtain ⟨a1, ⟨tm, a2⟩, a3, a4, a5, a6, a7⟩ := hJ
    obtain ⟨r, bs, rfl, hbs, pr⟩ : ∃ r bs, v = .ref r ∧ (bs = row0 ns.length ∨ bs = row1 ns.length) ∧ s'.heap.PlainList r (bs.map Value.bool).toArray := by
      match i, hv with
      | 0, hv => cases hv; exact ⟨r0, _, rfl, .inl rfl, a4⟩
      | 1, hv => cases hv; exact ⟨r1, _, rfl, .inr rfl, a5⟩
      | _ + 2, hv => cases hv
    refine hg ?_
    clear hg gl
    have bl : bs.length ≤ 1000 := by
      rcases hbs with rfl | rfl
      · rw [List.length_replicate]; lia
      · rw [List.length_append, List.length_replicate, List.length_replicate]; lia
    refine wpAny_execs_cons ?_
    refine wpAny_If ?_
    refine wpAny_isTrue_Compare1 ?_
    refine Subscript_ ?_
    refine Call_ ?_
    refine nameX_K B'.fr X.X T' (v := .ref 118) (by kernel_rfl) ?_
    refine callWith_K (h₀ := G) X.X (by kernel_rfl) ?_
    refine args_cons ?_
    refine nameX_L B'.fr ((upd_ne (x := "row") (by decide)).trans a1) ?_
    refine args_cons ?_
    refine Call_ ?_
    refine nameX_K B'.fr X.X T' (v := .ref 125) (by kernel_rfl) ?_
    refine callWith_K (h₀ := G) X.X (by kernel_rfl) ?_
    refine args_cons ?_
    refine nameX_L B'.fr rfl ?_
    refine args_nil ⟨X.X.keeps B'.fr.keep, ?_⟩
    refine bl_callV (told_meetsL X bl) B' (fun b hb => .inl (.tail _ hb)) hWG (by lia) (by lia) ⟨pr, a7⟩ (fun fv g1 tk1 C1 q1 _ kd1' => ?_)
    refine hide fun gl hg => ?_
    obtain ⟨fl, aO, rfl, fn1, fw1, pO1, sO1, gO1, wO1, le1, tt1'⟩ := q1
    refine hg ?_
    clear hg gl
    have hLO : L < aO := Nat.lt_of_lt_of_le B'.fr.ns.lt sO1
    have pX1' := kd1'.plain (fun q => P5 (by rw [List.mem_singleton.mp q]; simp)) a3
    have tr1' := a6.kpd kd1' (by decide) (fun b hb => .inl (by rw [List.mem_singleton.mp hb]; simp))
    refine args_cons ?_
    refine List_ ?_
    refine args_nil ?_
    refine bl_newList (s := { s' with heap := g1, toks := tk1 }) C1 (fun aS g2 C2 pS kS lS nS => ?_)
    refine args_cons ?_
    refine List_ ?_
    refine args_nil ?_
    refine bl_newList (s := { s' with heap := g2, toks := tk1 }) C2 (fun aH g3 C3 pH kH lH nH => ?_)
    refine args_cons ?_
    refine List_ ?_
    refine args_nil ?_
    refine bl_newList (s := { s' with heap := g3, toks := tk1 }) C3 (fun aK g4 C4 pK kK lK nK => ?_)
    refine args_nil ⟨X.X.keeps C4.fr.keep, ?_⟩
    have k14 : ∀ b o, g1.get? b = some o → g4.get? b = some o := fun b o e => kK _ _ (kH _ _ (kS _ _ e))
    have pre : RunPre prog w G aX aS aH aK aO fl oRow tlRow ivs ns bs [] g4 := by
      refine ⟨tr1'.keeps k14, pX1'.at (k14 _), hi, by lia, (pS.at (kH _)).at (kK _), pH.at (kK _), pK, ⟨_, pO1.at (k14 _), rfl⟩, bl, ?_, fun b hb => ?_, let ⟨a, b, c, d, e⟩ := fn1; ⟨a, b, c, d, k14 _ _ e⟩, fw1, le1.keeps (KpD.of k14), fun d hd => by cases hd⟩
      · exact nodup5 (all4 (plain_ne pX1' nS) (plain_ne (pX1'.at (kS _)) nH) (plain_ne ((pX1'.at (kS _)).at (kH _)) nK) (plain_ne a3 (Heap.get?_none_of_le sO1))) (all3 (plain_ne pS nH) (plain_ne (pS.at (kH _)) nK) (plain_ne pO1 nS).symm) (plain_ne pH nK) (plain_ne (pO1.at (kS _)) nH).symm (plain_ne ((pO1.at (kS _)).at (kH _)) nK).symm
      · exact all5 (p := fun b => G.get? b = none ∧ b ∉ Wt) ⟨P4, P5⟩ ⟨C4.gl _ (Nat.le_of_lt lS), lowW _ (Nat.le_of_lt lS)⟩ ⟨C4.gl _ (Nat.le_of_lt lH), lowW _ (Nat.le_of_lt lH)⟩ ⟨C4.gl _ (Nat.le_of_lt lK), lowW _ (Nat.le_of_lt lK)⟩ ⟨gO1, wO1⟩ b hb
    have soft : Soft [113, 120] L [aS, aH, aK, aO, 113] g4 := all5 (.inr ⟨lS, soft_plain pre.S⟩) (.inr ⟨lH, soft_plain pre.H⟩) (.inr ⟨lK, soft_plain pre.K⟩) (.inr ⟨hLO, soft_plain (pO1.at (k14 _))⟩) (.inl (by simp))
    refine bl_callV (s := { s' with heap := g4, toks := tk1 }) (run_meetsL X hk (Hr bs hbs)) C4 soft hWG (by lia) (by lia) pre (fun rv g5 tk5 C5 q5 _ kd5 => ?_)
    refine hide fun gl hg => ?_
    obtain ⟨aP, aT5, σ', b, rfl, it5, nP5, nT5, ru5, hq5, tr5⟩ := q5
    refine hg ?_
    clear hg gl
    have hb : b = decide ((ns.length : Int) < 4) := by
      cases b with
      | true => have : ns.length < 4 := hq5; symm; rw [decide_eq_true_iff]; lia
      | false => have : ¬ ns.length < 4 := hq5; symm; rw [decide_eq_false_iff_not]; lia
    refine wpAny_Constant_int ?_
    refine kba_turn (value' := Expr.Name (PySem.Str.ofString "_") ⟨0, 0, 0, 0⟩) (fun _ => rfl) ?_
    refine item_tupleL (l := [.ref aP, .bool b]) it5 (by decide) (by decide) (j := 1) (by rfl) rfl ?_
    refine wpAny_Compare1 ?_
    refine nameX_L C5.fr ((upd_ne (x := "row") (by decide)).trans a2) ?_
    refine wpAny_Constant_int ?_
    refine PyProof.Rows.lt_int ?_
    refine PyProof.Rows.ne_bool ?_
    refine wpAny_truthy_bool ?_
    have e5 : (b != decide ((ns.length : Int) < 4)) = false := by rw [hb]; simp
    simp only [e5, Bool.false_eq_true, ↓reduceIte]
    refine wpAny_execs_nil ?_
    refine wpAny_execs_nil ?_
    -- all but the two tables stays
    have kdAll : KpD [113, 120] s'.heap g5 := fun b o hb d e => by
      have hb1 : b ∉ [120] := fun q => hb (.tail _ q)
      have e1 := kd1' b o hb1 d e
      have e4 := k14 _ _ e1
      refine kd5 b o (fun q => ?_) d e4
      exact all5 (p := fun y => b ≠ y) (ne_some e1 nS) (ne_some (kS _ _ e1) nH) (ne_some (kH _ _ (kS _ _ e1)) nK) (ne_some e (Heap.get?_none_of_le sO1)) (fun z => hb (z ▸ .head _)) b q rfl
    have tt5 : TabQ wTold 120 g5 := (tt1'.keeps k14).kpd kd5 (fun q => ?_) (fun b hb => ?_)
    · have n120 : ∀ x, L < x → (120 : Addr) ≠ x := fun x hx q => lowX x (Nat.le_of_lt hx) 120 (by simp) q.symm
      have off : ∀ {r : Addr} {its : Array Value}, s'.heap.PlainList r its → r ∉ [113, 120] := fun {r its} pr q => by
        rcases List.mem_cons.mp q with rfl | q
        · obtain ⟨_, e⟩ := pr; obtain ⟨_, e', _⟩ := a6; rw [e] at e'; cases e'
        · rw [List.mem_singleton.mp q] at pr; obtain ⟨_, e⟩ := pr; obtain ⟨_, e', _⟩ := a7; rw [e] at e'; cases e'
      exact ⟨_, C5, ⟨(upd_ne (x := "row") (by decide)).trans a1, ⟨tm, (upd_ne (x := "row") (by decide)).trans a2⟩, kdAll.plain (off a3) a3, kdAll.plain (off a4) a4, kdAll.plain (off a5) a5, tr5, tt5⟩, kdAll, same.trans .of⟩
    · have n120 : ∀ x, L < x → (120 : Addr) ≠ x := fun x hx q => lowX x (Nat.le_of_lt hx) 120 (by simp) q.symm
      exact all5 (p := fun y => (120 : Addr) ≠ y) (n120 aS lS) (n120 aH lH) (n120 aK lK) (n120 aO hLO) (by decide) _ q rfl
    · have np : ∀ {b : Addr} {its : Array Value}, g4.PlainList b its → ∀ o vs, g4.get? b = some o → o.data ≠ .fields vs := fun ⟨_, e⟩ o vs e' d => by rw [e] at e'; cases e'; cases d
      exact all5 (p := fun b => b ∈ Wt ∨ ∀ o vs, g4.get? b = some o → o.data ≠ .fields vs) (.inr (np pre.S)) (.inr (np pre.H)) (.inr (np pre.K)) (.inr (np (pO1.at (k14 _)))) (.inl (by simp)) b hb
  · intro m s' hJ B' same kd
    have a67 := hJ.2.2.2.2.2
    obtain ⟨hh, tt, rfl⟩ := same
    refine wpAny_execs_cons ?_
    refine wpAny_Return_some ?_
    refine PyProof.Rows.Constant_bool ?_
    exact hQ (.ret (.bool true)) hh _ B'.fr.keep B'.kp ⟨rfl, a67.1, a67.2⟩
end
end Mine
end

section
open PySem PySem.W PySem.Calls PyProof.Rows PySem.Spec PySem.SeqAt PyProof.V
set_option Elab.async false
set_option maxRecDepth 100000
namespace Mine
section
variable {prog : Program} {w : World} {G : Heap} {W : List Addr} {A : Around} {outer : List Env} {env : Env} {L a : Addr} {cells : List (Str × Addr)} {h₀ h h' : Heap} {dep un : Nat} {m m' cm : Str → Option Value} {E : Value → Shared → Prop} {s : Shared}

/-- [elt for x in a list if c], c never so -/
theorem bl_compNone {elt iter c : Expr} {x : Str} {px : Pos} {scope : Scope} {clos : List (Str × Addr)} {pos : Pos} {aS : Addr} {vs : List Value} {Q : Value → Shared → Prop}
    (B : Bl G W A outer env L cells h₀ dep un m cm s.heap)
    (hclos : closureFor scope env = pure clos) (hcell : ∀ y ∈ scope.names, y.2 ≠ .cell) (hkind : scope.kind = .function)
    (hnames : ∀ y ∈ scope.names, y.2 = .local → scope.names.lookup y.1 = some .local) (hx : scope.names.lookup x = some .local)
    (pl : s.heap.PlainList aS vs.toArray) (hsz : vs.length ≤ 100000)
    (hit : ∀ Q' : Value → Shared → Prop, Q' (.ref aS) s → wpAny (model prog w) A (eval iter env) Q' E s)
    (test : ∀ (C : Addr) (v : Value) (s₃ : Shared) (m₃ : Str → Option Value) (E' : Value → Shared → Prop), v ∈ vs → s₃.heap.Ns C m₃ → m₃ x = some v → s.heap.StaysIn s₃.heap →
      wpAny (model prog w) A (isTrue c (compEnvC scope clos C env) (eval c (compEnvC scope clos C env))) (fun ok s₄ => ok = false ∧ Keeps s₃ s₄) E' s₃)
    (h : ∀ D h' tk, Bl G W A outer env L cells h₀ dep un m cm h' → h'.PlainList D #[] → s.heap.StaysIn h' → Q (.ref D) { s with heap := h', toks := tk })
    (hs : ∀ x, foldedSetIterable iter env x = pure x := by intro _; rfl) :
    wpAny (model prog w) A (eval (.ListComp elt [⟨.Name x px, iter, [c], 0⟩] scope pos) env) Q E s := by
  refine wpAny_ListComp_free (fun _ => false) (fun _ _ => False) hclos hcell hkind hnames hx (hit _ ?_) hs
  obtain ⟨n, e⟩ := id pl
  have hne : aS ≠ s.heap.objs.size := Nat.ne_of_lt (Heap.lt_size e)
  refine wpAny_pyIter_list pl.isList ?_
  have k : s.heap.StaysIn (s.heap.push { cls := .type "list_iterator", data := .fields #[.ref aS, .int 0 0] }) := fun b o e => Heap.get?_push_of_some _ e
  refine ⟨_, _, _, _, _, _, rfl, walk_list B.hd hne, by rw [sizeLine_eq]; lia, ⟨⟨_, Heap.get?_push_size _ rfl, rfl, rfl⟩, pl.isList.push _⟩, fun b hb => ?_, ⟨?_, fun C i v s₃ m₃ E' _ _ q => (nomatch q)⟩, ?_⟩
  · show b < (s.heap.push _).objs.size
    rw [Heap.size_push]
    rcases List.mem_cons.mp hb with rfl | hb
    · exact Nat.lt_succ_self _
    · rw [List.mem_singleton.mp hb]; exact Nat.lt_succ_of_lt (Heap.lt_size e)
  · intro C i v s₃ m₃ E' _ hv ns mx kp _
    refine wpAny_tests_one (wpAny_mono (test C v s₃ m₃ E' (List.mem_of_getElem? hv) ns mx (fun b o e => kp b o (fun q => ?_) (k b o e))) (fun ok s₄ z => z) fun _ _ z => z)
    rw [List.mem_singleton.mp q, Heap.get?_none_of_le (Nat.le_refl _)] at e; cases e
  · intro D h' tk ys vs' hD hl hpl hlen hP hF hk
    have st : s.heap.StaysIn h' := fun b o e => hk b o (fun q => by rw [List.mem_singleton.mp q, Heap.get?_none_of_le (Nat.le_refl _)] at e; cases e) (k b o e)
    have ey : ys = #[] := by
      have : vs'.filter (fun _ => false) = [] := by simp
      rw [this] at hF
      cases hys : ys.toList with
      | nil => exact Array.toList_eq_nil_iff.mp hys
      | cons a b => rw [hys] at hF; cases hF
    rw [ey] at hpl
    exact h D h' tk (B.grow st) hpl st
end
end Mine
end

section
open PySem PySem.W PySem.Calls PyProof.Rows PySem.Spec PySem.SeqAt PyProof.V
set_option Elab.async false
set_option maxRecDepth 100000
namespace Mine

/-- what a sorting of the law's leaves -/
structure LawGood (kind : Int) (done : Bool) (ivs : List Value) (σ : Sg) : Prop where
  seen : ∀ i ∈ σ.S, 0 ≤ i ∧ i ≤ (ivs.length : Int) + 1
  head : ∃ t rest, σ.P = .str "begin" t :: rest ∧ (rest.map vkey).Perm (ivs.map vkey ++ [((none, "end") : Option Int × Str)])
  chance : kind = 3 → done = true → σ.H = []
  real : kind ≠ 3 → done = true ∧ σ.H = [] ∧ (σ.K ≠ [] ↔ 3 < ivs.length) ∧ (∀ v ∈ σ.K, VOk v) ∧ (∀ i ∈ σ.S, 1 ≤ i ∧ i ≤ (ivs.length : Int)) ∧
    ∃ t u ps ms, σ.P = .str "begin" t :: (ps ++ [.str "end" u]) ∧ IntsAre ps ms ∧ (ps.map vkey).Perm (ivs.map vkey) ∧ OrdBy kind ms

def Tabs (h : Heap) : Prop := TabQ wRun 113 h ∧ TabQ wTold 120 h ∧ TabQ wLess 106 h
theorem Tabs.keeps {h h' : Heap} (x : Tabs h) (k : ∀ b o, h.get? b = some o → h'.get? b = some o) : Tabs h' := ⟨x.1.keeps k, x.2.1.keeps k, x.2.2.keeps k⟩
theorem Tabs.kpd {h h' : Heap} (x : Tabs h) (k : KpD [] h h') : Tabs h' := ⟨x.1.kpd k (by simp) (by simp), x.2.1.kpd k (by simp) (by simp), x.2.2.kpd k (by simp) (by simp)⟩

abbrev cellsLaw (L : Addr) : List (Str × Addr) := cellsFrom (L + 1) (sScope (topS 11)).names []
abbrev envLaw (L fa : Addr) (cd : Value) : Env := envX "law" (sScope (topS 11)) L fa cd (cellsLaw L)

/-- the state of the law after its sorting -/
structure LawAt (kind : Int) (done : Bool) (ivs : List Value) (ns : List Int) (aX aP aS aH aK aO : Addr) (orel : ORel) (σ : Sg) (m cm : Str → Option Value) (h : Heap) : Prop where
  lk : ∃ t, m "kind" = some (.int kind t)
  lx : m "some" = some (.ref aX)
  lS : m "seen" = some (.ref aS)
  lH : m "held" = some (.ref aH)
  lK : m "kept" = some (.ref aK)
  lP : m "places" = some (.ref aP)
  ld : m "is_done" = some (.bool done)
  lc : ∃ t, cm "many" = some (.int ivs.length t)
  pI : h.PlainList aX ivs.toArray
  hi : IntsAre ivs ns
  hl : ns.length ≤ 24
  ru : Run ⟨aP, aS, aH, aK, aO⟩ orel σ h
  nb : σ.n < 100000
  good : LawGood kind done ivs σ
  hk : 0 ≤ kind ∧ kind ≤ 3
  tabs : Tabs h

theorem LawAt.keeps {kind : Int} {done : Bool} {ivs : List Value} {ns : List Int} {aX aP aS aH aK aO : Addr} {orel : ORel} {σ : Sg} {m cm : Str → Option Value} {h h' : Heap} (x : LawAt kind done ivs ns aX aP aS aH aK aO orel σ m cm h)
    (k : h.StaysIn h') : LawAt kind done ivs ns aX aP aS aH aK aO orel σ m cm h' := { x with pI := x.pI.at (k _), ru := x.ru.keeps fun b _ o e => k b o e, tabs := x.tabs.keeps k }

theorem voks_reads (h : Heap) : ∀ {vs : List Value}, (∀ v ∈ vs, VOk v) → ∃ ds, ReadsAll h vs ds [] ∧ PyData.canLayAll0 ds = true ∧ PyData.depthAll ds ≤ 1 ∧ (ds = [] ↔ vs = [])
  | [], _ => ⟨[], .nil, by simp [PyData.canLayAll0], by simp [PyData.depthAll], by simp⟩
  | v :: vs, hv => by
    obtain ⟨ds, r, c, d, _⟩ := voks_reads h (vs := vs) fun v h => hv v (.tail _ h)
    have one : ∃ e, Reads h v e [] ∧ PyData.canLay0 e = true ∧ PyData.depth e ≤ 1 := by
      rcases hv v (.head _) with ⟨i, t, rfl⟩ | ⟨t, rfl⟩ | ⟨t, rfl⟩
      · exact ⟨_, .int i t, by simp [PyData.canLay0], by simp [PyData.depth]⟩
      · exact ⟨_, .str _ t, by simp [PyData.canLay0]; decide +kernel, by simp [PyData.depth]⟩
      · exact ⟨_, .str _ t, by simp [PyData.canLay0]; decide +kernel, by simp [PyData.depth]⟩
    obtain ⟨e, e1, e2, e3⟩ := one
    exact ⟨e :: ds, by simpa using ReadsAll.cons e1 r, by simp [PyData.canLayAll0, e2, c], by simp only [PyData.depthAll]; lia, by simp⟩

section
variable {prog : Program} {w : World} {A : Around} {E : Value → Shared → Prop} {s : Shared}

theorem same_nil (ds : List PyData) : PySem.Spec.sameAll ds [] = decide (ds = []) := by cases ds <;> simp [PySem.Spec.sameAll]
theorem noMix_nil (ds : List PyData) : noMixAll ds [] = true := by cases ds <;> simp [noMixAll]
theorem shaped_dl {ds : List PyData} (c : PyData.canLayAll0 ds = true) (d : PyData.depthAll ds ≤ 1) : shaped (.list ds) = true := by
  show (PyData.canLay0 (.list ds) && decide (PyData.depth (.list ds) ≤ 64)) = true
  rw [Bool.and_eq_true]
  exact ⟨by simp only [PyData.canLay0]; exact c, decide_eq_true (by simp only [PyData.depth]; lia)⟩

theorem eq_none_of {a b : Addr} {vs : List Value} {Q : Value → Shared → Prop} (hl : s.heap.PlainList a vs.toArray) (hv : ∀ v ∈ vs, VOk v) (hl' : s.heap.PlainList b #[]) (hu : A.units + 64 < cLine) (h : Q (.bool (decide (vs = []))) s) :
    wpAny (model prog w) A (compareOp .Eq (.ref a) (.ref b)) Q E s := by
  refine hide fun gl9 hg9 => ?_
  obtain ⟨ds, r, c, d, hz⟩ := voks_reads s.heap hv
  refine hg9 ?_
  clear hg9 gl9
  obtain ⟨n1, e1⟩ := hl
  obtain ⟨n2, e2⟩ := hl'
  refine eq_dataH_same (da := .list ds) (db := .list []) (Reads.list e1 rfl rfl (by simpa using r)) (Reads.list e2 rfl rfl .nil) (shaped_dl c d) (shaped_dl (by simp [PyData.canLayAll0]) (by simp [PyData.depthAll])) hu (by simp only [noMix]; exact noMix_nil ds) ?_
  simp only [PySem.Spec.same]
  rw [same_nil]
  have : decide (ds = []) = decide (vs = []) := by rw [Bool.eq_iff_iff, decide_eq_true_iff, decide_eq_true_iff]; exact hz
  rw [this]; exact h
theorem ne_none_of {a b : Addr} {vs : List Value} {Q : Value → Shared → Prop} (hl : s.heap.PlainList a vs.toArray) (hv : ∀ v ∈ vs, VOk v) (hl' : s.heap.PlainList b #[]) (hu : A.units + 64 < cLine) (h : Q (.bool (!decide (vs = []))) s) :
    wpAny (model prog w) A (compareOp .NotEq (.ref a) (.ref b)) Q E s := by
  refine hide fun gl9 hg9 => ?_
  obtain ⟨ds, r, c, d, hz⟩ := voks_reads s.heap hv
  refine hg9 ?_
  clear hg9 gl9
  obtain ⟨n1, e1⟩ := hl
  obtain ⟨n2, e2⟩ := hl'
  refine ne_dataH_same (da := .list ds) (db := .list []) (Reads.list e1 rfl rfl (by simpa using r)) (Reads.list e2 rfl rfl .nil) (shaped_dl c d) (shaped_dl (by simp [PyData.canLayAll0]) (by simp [PyData.depthAll])) hu (by simp only [noMix]; exact noMix_nil ds) ?_
  simp only [PySem.Spec.same]
  rw [same_nil]
  have : decide (ds = []) = decide (vs = []) := by rw [Bool.eq_iff_iff, decide_eq_true_iff, decide_eq_true_iff]; exact hz
  rw [this]; exact h
end

section
variable {prog : Program} {w : World} {G : Heap} {A : Around} {outer : List Env} {L fa aX aP aS aH aK aO : Addr} {cd : Value} {h₀ h h' : Heap} {m m' cm : Str → Option Value} {E : Value → Shared → Prop} {s : Shared} {kind : Int} {done : Bool} {ivs : List Value} {ns : List Int} {orel : ORel} {σ : Sg} {Qb : Flow → Shared → Prop}

theorem law_p8 (X : LG w G) (B : Bl G Wt A outer (envLaw L fa cd) L (cellsLaw L) h₀ 240 2300 m cm s.heap) (Z : LawAt kind done ivs ns aX aP aS aH aK aO orel σ m cm s.heap) (h3 : kind ≠ 3)
    (hQ : ∀ h' tk, G.StaysIn h' → KpL (outer.filterMap (·.frame)) Wt h₀ h' → Tabs h' → Qb (.ret (.bool true)) { s with heap := h', toks := tk }) :
    wpAny (model prog w) A (execs ((sBody (topS 11)).drop 8) (envLaw L fa cd)) Qb E s := by
  refine hide fun gl9 hg9 => ?_
  obtain ⟨p, loose, mean, mg, mb, T⟩ := X.T
  refine hg9 ?_
  clear hg9 gl9
  have T' := topRead_of T
  have hWG : ∀ b ∈ Wt, G.get? b = none := X.hid
  obtain ⟨tk, lk⟩ := Z.lk
  obtain ⟨tc, lc⟩ := Z.lc
  refine hide fun gl9 hg9 => ?_
  obtain ⟨_, _, _, _, _, tb, te, ps, ms, hP, hps, hpp, ho⟩ := Z.good.real h3
  refine hg9 ?_
  clear hg9 gl9
  have hvl := Z.hi.length
  have hl := Z.hl
  have hpl : ps.length = ivs.length := by have := hpp.length_eq; simpa using this
  have pP : s.heap.PlainList aP σ.P.toArray := Z.ru.p
  have hPl : σ.P.length = ivs.length + 2 := by rw [hP, List.length_cons, List.length_append, hpl]; rfl
  refine wpAny_execs_cons ?_
  refine wpAny_Assign_Name ?_
  refine Subscript_ ?_
  refine nameX_L B.fr Z.lP ?_
  refine wpAny_Slice ?_
  refine wpAny_evalPart_some ?_
  refine wpAny_Constant_int ?_
  refine wpAny_evalPart_some ?_
  refine wpAny_BinOp ?_
  refine cell_L B (ca := L + 1) (by rfl) lc ?_
  refine wpAny_Constant_int ?_
  refine PyProof.Rows.add_int ?_
  refine wpAny_evalPart_none ?_
  refine bl_slice (s := { s with toks := _ }) B pP.isList (.int 1 _) (.int ((ivs.length : Int) + 1) _) (by lia) (fun aD h1 B1 p1 k1 l1 n1 => ?_)
  have e1 : slicePick σ.P.toArray (some 1) (some ((ivs.length : Int) + 1)) none = ps.toArray := by
    have := slicePick_run σ.P.toArray 1 (ivs.length + 1) (by rw [List.size_toArray, hPl]; lia) (by lia)
    rw [hP] at this ⊢
    have e : ((ivs.length + 1 : Nat) : Int) = (ivs.length : Int) + 1 := by lia
    rw [e] at this
    rw [show ((1 : Nat) : Int) = 1 from rfl] at this
    rw [this]
    show (List.take (ivs.length + 1 - 1) (ps ++ [.str "end" te])).toArray = _
    rw [Nat.add_sub_cancel, ← hpl, List.take_left]
  rw [e1] at p1
  refine bl_store (s := { s with heap := h1, toks := _ }) B1 (fun h2 B2 k2 => ?_)
  have kd2 : KpD [] h1 h2 := kpd_store B1.fr.ns k2
  have p2 := kd2.plain (by simp) p1
  have pP2 := kd2.plain (by simp) (pP.at (k1 _))
  have pX2 := kd2.plain (by simp) (Z.pI.at (k1 _))
  have tb2 := (Z.tabs.keeps k1).kpd kd2
  refine wpAny_execs_cons ?_
  refine wpAny_Return_some ?_
  refine BoolOp_and ?_
  refine wpAny_Compare1 ?_
  refine Subscript_ ?_
  refine nameX_L B2.fr ((upd_ne (x := "found") (by decide)).trans Z.lP) ?_
  refine wpAny_BinOp ?_
  refine cell_L B2 (ca := L + 1) (by rfl) lc ?_
  refine wpAny_Constant_int ?_
  refine PyProof.Rows.add_int ?_
  refine item_listL (k := (ivs.length : Int) + 1) (x := .str "end" te) pP2.isList (by lia) (by lia) ?_ ?_
  · rw [hP, show ((ivs.length : Int) + 1).toNat = ps.length + 1 by lia]
    simp
  refine const_str (fun _ _ => ?_)
  refine PyProof.Rows.eq_str ?_
  refine wpAny_truthy_bool ?_
  simp only [BEq.rfl, ↓reduceIte]
  refine BoolOp_and ?_
  refine Call_ ?_
  refine nameX_K B2.fr X.X T' (v := .ref 137) (by kernel_rfl) ?_
  refine callWith_K (h₀ := G) X.X (by kernel_rfl) ?_
  refine args_cons ?_
  refine nameX_L B2.fr rfl ?_
  refine args_cons ?_
  refine nameX_L B2.fr ((upd_ne (x := "found") (by decide)).trans Z.lx) ?_
  refine args_nil ⟨X.X.keeps B2.fr.keep, ?_⟩
  refine bl_callV (s := { s with heap := h2, toks := _ }) (often_meetsL X (ints_ok hps) (ints_ok Z.hi) hpp (by lia)) B2 (fun b hb => by cases hb) hWG (by lia) (by lia) ⟨p2, pX2⟩ (fun v h4 tk4 B4 q4 _ kd4 => ?_)
  subst q4
  refine wpAny_truthy_bool ?_
  simp only [↓reduceIte]
  refine BoolOp_one ?_
  refine Call_ ?_
  refine nameX_K B4.fr X.X T' (v := .ref 142) (by kernel_rfl) ?_
  refine callWith_K (h₀ := G) X.X (by kernel_rfl) ?_
  refine args_cons ?_
  refine nameX_L B4.fr rfl ?_
  refine args_cons ?_
  refine nameX_L B4.fr ((upd_ne (x := "found") (by decide)).trans lk) ?_
  refine args_nil ⟨X.X.keeps B4.fr.keep, ?_⟩
  have hkk := Z.hk
  refine bl_callV (s := { s with heap := h4, toks := tk4 }) (sorted_meetsL X hps (by rw [← hps.length]; lia) ⟨hkk.1, by lia⟩ ho) B4 (fun b hb => by cases hb) hWG (by lia) (by lia) (kd4.plain (by simp) p2) (fun v h5 tk5 B5 q5 _ kd5 => ?_)
  subst q5
  exact hQ h5 tk5 B5.fr.keep B5.kp ((tb2.kpd kd4).kpd kd5)
end
end Mine
end

section
open PySem PySem.W PySem.Calls PyProof.Rows PySem.Spec PySem.SeqAt PyProof.V
set_option Elab.async false
set_option maxRecDepth 100000
namespace Mine
section
variable {prog : Program} {w : World} {G : Heap} {A : Around} {outer : List Env} {L fa aX aP aS aH aK aO : Addr} {cd : Value} {h₀ h h' : Heap} {m m' cm : Str → Option Value} {E : Value → Shared → Prop} {s : Shared} {kind : Int} {done : Bool} {ivs : List Value} {ns : List Int} {orel : ORel} {σ : Sg} {Qb : Flow → Shared → Prop}

set_option maxHeartbeats 1000000 in
theorem law_p7 (X : LG w G) (B : Bl G Wt A outer (envLaw L fa cd) L (cellsLaw L) h₀ 240 2300 m cm s.heap) (Z : LawAt kind done ivs ns aX aP aS aH aK aO orel σ m cm s.heap) (h3 : kind ≠ 3)
    (hQ : ∀ h' tk, G.StaysIn h' → KpL (outer.filterMap (·.frame)) Wt h₀ h' → Tabs h' → Qb (.ret (.bool true)) { s with heap := h', toks := tk }) :
    wpAny (model prog w) A (execs ((sBody (topS 11)).drop 7) (envLaw L fa cd)) Qb E s := by
  obtain ⟨p, loose, mean, mg, mb, T⟩ := X.T
  have T' := topRead_of T
  have hWG : ∀ b ∈ Wt, G.get? b = none := X.hid
  obtain ⟨tk, lk⟩ := Z.lk
  obtain ⟨tc, lc⟩ := Z.lc
  obtain ⟨r1, r2, r3, r4, r5, _⟩ := Z.good.real h3
  have hvl := Z.hi.length
  have hl := Z.hl
  refine wpAny_execs_cons ?_
  refine wpAny_If ?_
  refine isTrue_or ?_
  refine isTrue_not ?_
  refine isTrue_plain ?_
  refine nameX_L B.fr Z.ld ?_
  refine wpAny_truthy_bool ?_
  subst r1
  simp only [Bool.not_true, Bool.false_eq_true, ↓reduceIte]
  refine isTrue_or ?_
  refine wpAny_isTrue_Compare1 ?_
  refine nameX_L B.fr Z.lH ?_
  refine List_ ?_
  refine args_nil ?_
  refine bl_newList B (fun t1 h1 B1 p1 k1 l1 _ => ?_)
  have Z1 := Z.keeps k1
  refine ne_none_of (s := { s with heap := h1 }) Z1.ru.hh Z1.ru.vh p1 (by have := B1.un; lia) ?_
  rw [r2]
  refine wpAny_truthy_bool ?_
  simp only [decide_true, Bool.not_true, Bool.false_eq_true, ↓reduceIte]
  refine isTrue_or ?_
  refine wpAny_isTrue_Compare1 ?_
  refine wpAny_Compare1 ?_
  refine nameX_L B1.fr Z.lK ?_
  refine List_ ?_
  refine args_nil ?_
  refine bl_newList (s := { s with heap := h1 }) B1 (fun t2 h2 B2 p2 k2 l2 _ => ?_)
  have Z2 := Z1.keeps k2
  refine ne_none_of (s := { s with heap := h2 }) Z2.ru.k r4 p2 (by have := B2.un; lia) ?_
  refine wpAny_Compare1 ?_
  refine cell_L B2 (ca := L + 1) (by rfl) lc ?_
  refine wpAny_Constant_int ?_
  refine PyProof.Rows.gt_int ?_
  refine PyProof.Rows.ne_bool ?_
  refine wpAny_truthy_bool ?_
  have e3 : ((!decide (σ.K = [])) != decide ((3 : Int) < (ivs.length : Int))) = false := by
    by_cases hk : σ.K = []
    · have : ¬ 3 < ivs.length := fun q => r3.mpr q hk
      have : ¬ (3 : Int) < (ivs.length : Int) := by lia
      simp [hk, this]
    · have := r3.mp hk
      have : (3 : Int) < (ivs.length : Int) := by lia
      simp [hk, this]
  rw [e3]
  simp only [Bool.false_eq_true, ↓reduceIte]
  refine isTrue_or ?_
  refine wpAny_isTrue_Compare1 ?_
  obtain ⟨vS, pS, iS⟩ := Z2.ru.s
  have hsl : vS.length ≤ 100000 := by rw [iS.length]; have := Z2.ru.bS; have := Z.nb; lia
  refine bl_compNone (s := { s with heap := h2, toks := _ }) (aS := aS) (vs := vS) (clos := [("many", L + 1)]) B2 (by rfl) (by decide) rfl (by decide) (by rfl) pS hsl (fun Q' hq => nameX_L B2.fr Z.lS hq) ?_ (fun D h4 tk4 B4 p4 k4 => ?_)
  · intro C v s₃ m₃ E' hv ns3 mx kp
    obtain ⟨n, hn, t, rfl⟩ : ∃ n, n ∈ σ.S ∧ ∃ t, v = .int n t := by
      obtain ⟨i, hi⟩ := List.mem_iff_getElem?.mp hv
      obtain ⟨a, t, e, f⟩ := ints_at iS hi
      exact ⟨a, List.mem_of_getElem? f, t, e⟩
    obtain ⟨g1, g2⟩ := r5 n hn
    have c3 : s₃.heap.IsCell (L + 1) (some (.int ivs.length tc)) := by
      have := B2.cl.cell "many" (L + 1) (by rfl)
      rw [lc] at this
      obtain ⟨o, e, d⟩ := this
      exact ⟨o, kp _ _ e, d⟩
    refine isTrue_or ?_
    refine wpAny_isTrue_Compare1 ?_
    refine wpAny_Name (wpAny_loadName_local (by rfl) (by rfl) ns3 mx ?_) (by decide)
    refine wpAny_Constant_int ?_
    refine PyProof.Rows.lt_int ?_
    refine wpAny_truthy_bool ?_
    have f1 : decide (n < 1) = false := by rw [decide_eq_false_iff_not]; lia
    simp only [f1, Bool.false_eq_true, ↓reduceIte]
    refine isTrue_or ?_
    refine wpAny_isTrue_Compare1 ?_
    refine wpAny_Name (wpAny_loadName_local (by rfl) (by rfl) ns3 mx ?_) (by decide)
    refine wpAny_Name (wpAny_loadName_cell (c := L + 1) (v := .int ivs.length tc) (by rfl) (by rfl) (by rfl) c3 ?_) (by decide)
    refine PyProof.Rows.gt_int ?_
    refine wpAny_truthy_bool ?_
    have f2 : decide ((ivs.length : Int) < n) = false := by rw [decide_eq_false_iff_not]; lia
    simp only [f2, Bool.false_eq_true, ↓reduceIte]
    refine isTrue_or_nil ?_
    exact ⟨rfl, _, _, rfl, fun _ _ e => e⟩
  refine List_ ?_
  refine args_nil ?_
  refine bl_newList (s := { s with heap := h4, toks := tk4 }) B4 (fun t5 h5 B5 p5 k5 l5 _ => ?_)
  have Z5 := (Z2.keeps k4).keeps k5
  refine ne_intsK (p4.at (k5 _)).isList .nil p5.isList .nil (by have := B5.un; lia) ?_
  refine wpAny_truthy_bool ?_
  simp only [decide_true, Bool.not_true, Bool.false_eq_true, ↓reduceIte]
  refine isTrue_or_nil ?_
  simp only [Bool.false_eq_true, ↓reduceIte]
  refine wpAny_execs_nil ?_
  exact law_p8 (s := { s with heap := h5, toks := _ }) X B5 Z5 h3 hQ
end
end Mine
end

section
open PySem PySem.W PySem.Calls PyProof.Rows PySem.Spec PySem.SeqAt PyProof.V
set_option Elab.async false
set_option maxRecDepth 100000
namespace Mine
section
variable {prog : Program} {w : World} {G : Heap} {A : Around} {outer : List Env} {L fa aX aP aS aH aK aO : Addr} {cd : Value} {h₀ h h' : Heap} {m m' cm : Str → Option Value} {E : Value → Shared → Prop} {s : Shared} {kind : Int} {done : Bool} {ivs : List Value} {ns : List Int} {orel : ORel} {σ : Sg} {Qb : Flow → Shared → Prop}

set_option maxHeartbeats 1000000 in
theorem law_p6 (X : LG w G) (B : Bl G Wt A outer (envLaw L fa cd) L (cellsLaw L) h₀ 240 2300 m cm s.heap) (Z : LawAt kind done ivs ns aX aP aS aH aK aO orel σ m cm s.heap)
    (hQ : ∀ h' tk, G.StaysIn h' → KpL (outer.filterMap (·.frame)) Wt h₀ h' → Tabs h' → Qb (.ret (.bool true)) { s with heap := h', toks := tk }) :
    wpAny (model prog w) A (execs ((sBody (topS 11)).drop 6) (envLaw L fa cd)) Qb E s := by
  refine hide fun gl9 hg9 => ?_
  obtain ⟨p, loose, mean, mg, mb, T⟩ := X.T
  refine hg9 ?_
  clear hg9 gl9
  have T' := topRead_of T
  have hWG : ∀ b ∈ Wt, G.get? b = none := X.hid
  obtain ⟨tk, lk⟩ := Z.lk
  have hvl := Z.hi.length
  have hl := Z.hl
  refine wpAny_execs_cons ?_
  refine wpAny_If ?_
  refine wpAny_isTrue_Compare1 ?_
  refine nameX_L B.fr lk ?_
  refine wpAny_Constant_int ?_
  refine PyProof.Rows.eq_int ?_
  refine wpAny_truthy_bool ?_
  by_cases h3 : kind = 3
  · have e3 : (kind == 3) = true := by rw [h3]; rfl
    simp only [e3, ↓reduceIte]
    obtain ⟨tb, rest, hP, hperm⟩ := Z.good.head
    have hrl : rest.length = ivs.length + 1 := by have := hperm.length_eq; simpa using this
    have vr : ∀ v ∈ rest, VOk v := fun v hv => Z.ru.vp v (by rw [hP]; exact .tail _ hv)
    refine wpAny_execs_cons ?_
    refine wpAny_Return_some ?_
    refine BoolOp_and ?_
    refine Call_ ?_
    refine nameX_K B.fr X.X T' (v := .ref 137) (by kernel_rfl) ?_
    refine callWith_K (h₀ := G) X.X (by kernel_rfl) ?_
    refine args_cons ?_
    refine Subscript_ ?_
    refine nameX_L B.fr Z.lP ?_
    refine wpAny_Slice ?_
    refine wpAny_evalPart_some ?_
    refine wpAny_Constant_int ?_
    refine wpAny_evalPart_none ?_
    refine wpAny_evalPart_none ?_
    refine bl_slice (s := { s with toks := _ }) B Z.ru.p.isList (.int 1 _) .none (by rw [hP, List.length_cons, hrl]; lia) (fun aD h1 B1 p1 k1 l1 n1 => ?_)
    have e1 : slicePick σ.P.toArray (some 1) none none = rest.toArray := by
      have := slicePick_from σ.P.toArray 1 (by rw [List.size_toArray, hP, List.length_cons]; lia)
      rw [hP] at this ⊢
      rw [show ((1 : Nat) : Int) = 1 from rfl] at this
      rw [this]
      rfl
    rw [e1] at p1
    refine args_cons ?_
    refine wpAny_BinOp ?_
    refine nameX_L B1.fr Z.lx ?_
    refine List_ ?_
    refine args_cons ?_
    refine const_str (fun te _ => ?_)
    refine args_nil ?_
    refine bl_newList (s := { s with heap := h1, toks := _ }) B1 (fun t2 h2 B2 p2 k2 l2 _ => ?_)
    refine bl_add (s := { s with heap := h2, toks := _ }) B2 ((Z.pI.at (k1 _)).at (k2 _)) p2 (by show ivs.length + 1 ≤ _; lia) (fun t3 h3' B3 p3 k3 l3 _ => ?_)
    refine args_nil ⟨X.X.keeps B3.fr.keep, ?_⟩
    have Z3 := ((Z.keeps k1).keeps k2).keeps k3
    refine bl_callV (s := { s with heap := h3', toks := _ }) (often_meetsL X vr (fun v hv => ?_) (by simpa [vkey] using hperm) (by lia)) B3 (fun b hb => by cases hb) hWG (by lia) (by lia) ⟨(p1.at (k2 _)).at (k3 _), p3⟩ (fun v h4 tk4 B4 q4 _ kd4 => ?_)
    · rcases List.mem_append.mp hv with hv | hv
      · exact ints_ok Z.hi v hv
      · rw [List.mem_singleton.mp hv]; exact .inr (.inr ⟨_, rfl⟩)
    subst q4
    refine wpAny_truthy_bool ?_
    simp only [↓reduceIte]
    refine BoolOp_one ?_
    refine BoolOp_or ?_
    refine wpAny_Compare1 ?_
    refine nameX_L B4.fr Z.lH ?_
    refine List_ ?_
    refine args_nil ?_
    refine bl_newList (s := { s with heap := h4, toks := tk4 }) B4 (fun t5 h5 B5 p5 k5 l5 _ => ?_)
    have pH5 : h5.PlainList aH σ.H.toArray := (kd4.plain (by simp) Z3.ru.hh).at (k5 _)
    have tb5 := (Z3.tabs.kpd kd4).keeps k5
    refine eq_none_of (s := { s with heap := h5, toks := tk4 }) pH5 Z.ru.vh p5 (by have := B5.un; lia) ?_
    refine wpAny_truthy_bool ?_
    by_cases hH : σ.H = []
    · simp only [hH, decide_true, ↓reduceIte]
      exact hQ h5 tk4 B5.fr.keep B5.kp tb5
    · simp only [hH, decide_false, Bool.false_eq_true, ↓reduceIte]
      have hd : done = false := by
        cases hdn : done with
        | false => rfl
        | true => exact absurd (Z.good.chance h3 hdn) hH
      refine BoolOp_one ?_
      refine wpAny_UnaryOp ?_
      refine nameX_L B5.fr Z.ld ?_
      refine not_of ?_
      refine wpAny_truthy_bool ?_
      rw [hd]
      exact hQ h5 tk4 B5.fr.keep B5.kp tb5
  · have e3 : (kind == 3) = false := by simpa using h3
    simp only [e3, Bool.false_eq_true, ↓reduceIte]
    refine wpAny_execs_nil ?_
    exact law_p7 (s := { s with toks := _ }) X B Z h3 hQ

set_option maxHeartbeats 1000000 in
theorem law_p5 (X : LG w G) (B : Bl G Wt A outer (envLaw L fa cd) L (cellsLaw L) h₀ 240 2300 m cm s.heap) (Z : LawAt kind done ivs ns aX aP aS aH aK aO orel σ m cm s.heap)
    (hQ : ∀ h' tk, G.StaysIn h' → KpL (outer.filterMap (·.frame)) Wt h₀ h' → Tabs h' → Qb (.ret (.bool true)) { s with heap := h', toks := tk }) :
    wpAny (model prog w) A (execs ((sBody (topS 11)).drop 5) (envLaw L fa cd)) Qb E s := by
  refine hide fun gl9 hg9 => ?_
  obtain ⟨p, loose, mean, mg, mb, T⟩ := X.T
  refine hg9 ?_
  clear hg9 gl9
  have T' := topRead_of T
  have hWG : ∀ b ∈ Wt, G.get? b = none := X.hid
  obtain ⟨tc, lc⟩ := Z.lc
  refine hide fun gl9 hg9 => ?_
  obtain ⟨tb, rest, hP, hperm⟩ := Z.good.head
  refine hg9 ?_
  clear hg9 gl9
  refine wpAny_execs_cons ?_
  refine wpAny_If ?_
  refine isTrue_or ?_
  refine wpAny_isTrue_Compare1 ?_
  refine Subscript_ ?_
  refine nameX_L B.fr Z.lP ?_
  refine wpAny_Constant_int ?_
  refine item_listL (x := .str "begin" tb) Z.ru.p.isList (by decide) (by decide) (by rw [hP]; rfl) ?_
  refine const_str (fun _ _ => ?_)
  refine PyProof.Rows.ne_str ?_
  refine wpAny_truthy_bool ?_
  simp only [bne_self_eq_false, Bool.false_eq_true, ↓reduceIte]
  refine isTrue_or ?_
  refine wpAny_isTrue_Compare1 ?_
  refine hide fun gl9 hg9 => ?_
  obtain ⟨vS, pS, iS⟩ := Z.ru.s
  refine hg9 ?_
  clear hg9 gl9
  have hsl : vS.length ≤ 100000 := by rw [iS.length]; have := Z.ru.bS; have := Z.nb; lia
  refine bl_compNone (s := { s with toks := _ }) (aS := aS) (vs := vS) (clos := [("many", L + 1)]) B (by rfl) (by decide) rfl (by decide) (by rfl) pS hsl (fun Q' hq => nameX_L B.fr Z.lS hq) ?_ (fun D h4 tk4 B4 p4 k4 => ?_)
  · intro C v s₃ m₃ E' hv ns3 mx kp
    obtain ⟨n, hn, t, rfl⟩ : ∃ n, n ∈ σ.S ∧ ∃ t, v = .int n t := by
      obtain ⟨i, hi⟩ := List.mem_iff_getElem?.mp hv
      obtain ⟨a, t, e, f⟩ := ints_at iS hi
      exact ⟨a, List.mem_of_getElem? f, t, e⟩
    obtain ⟨g1, g2⟩ := Z.good.seen n hn
    have c3 : s₃.heap.IsCell (L + 1) (some (.int ivs.length tc)) := by
      have := B.cl.cell "many" (L + 1) (by rfl)
      rw [lc] at this
      obtain ⟨o, e, d⟩ := this
      exact ⟨o, kp _ _ e, d⟩
    refine isTrue_or ?_
    refine wpAny_isTrue_Compare1 ?_
    refine wpAny_Name (wpAny_loadName_local (by rfl) (by rfl) ns3 mx ?_) (by decide)
    refine wpAny_Constant_int ?_
    refine PyProof.Rows.lt_int ?_
    refine wpAny_truthy_bool ?_
    have f1 : decide (n < 0) = false := by rw [decide_eq_false_iff_not]; lia
    simp only [f1, Bool.false_eq_true, ↓reduceIte]
    refine isTrue_or ?_
    refine wpAny_isTrue_Compare1 ?_
    refine wpAny_Name (wpAny_loadName_local (by rfl) (by rfl) ns3 mx ?_) (by decide)
    refine wpAny_BinOp ?_
    refine wpAny_Name (wpAny_loadName_cell (c := L + 1) (v := .int ivs.length tc) (by rfl) (by rfl) (by rfl) c3 ?_) (by decide)
    refine wpAny_Constant_int ?_
    refine PyProof.Rows.add_int ?_
    refine PyProof.Rows.gt_int ?_
    refine wpAny_truthy_bool ?_
    have f2 : decide ((ivs.length : Int) + 1 < n) = false := by rw [decide_eq_false_iff_not]; lia
    simp only [f2, Bool.false_eq_true, ↓reduceIte]
    refine isTrue_or_nil ?_
    exact ⟨rfl, _, _, rfl, fun _ _ e => e⟩
  refine List_ ?_
  refine args_nil ?_
  refine bl_newList (s := { s with heap := h4, toks := tk4 }) B4 (fun t5 h5 B5 p5 k5 l5 _ => ?_)
  have Z5 := (Z.keeps k4).keeps k5
  refine ne_intsK (p4.at (k5 _)).isList .nil p5.isList .nil (by have := B5.un; lia) ?_
  refine wpAny_truthy_bool ?_
  simp only [decide_true, Bool.not_true, Bool.false_eq_true, ↓reduceIte]
  refine isTrue_or_nil ?_
  simp only [Bool.false_eq_true, ↓reduceIte]
  refine wpAny_execs_nil ?_
  exact law_p6 (s := { s with heap := h5, toks := _ }) X B5 Z5 hQ
end
end Mine
end

section
open PySem PySem.W PySem.Calls PyProof.Rows PySem.Spec PySem.SeqAt PyProof.V
set_option Elab.async false
set_option maxRecDepth 100000
namespace Mine

/-- the pure facts on the sorting -/
def RowsOk : Prop := ∃ nn k, k ≤ 150 ∧ ∀ (ivs : List Value) (ns : List Int), IntsAre ivs ns → ns.length ≤ 6 → ∀ bs, bs = row0 ns.length ∨ bs = row1 ns.length → ∀ t u, tSort tlRow nn k 1 ns.length (fun _ _ => ns.length < 4) (fun _ => ¬ ns.length < 4) (sg0 ivs bs t u)
def MainOk : Prop := ∀ (kind : Int) (orel : ORel) (tl : Value → Value → Tr Bool) (O₀ : List Bool), KindIs kind orel tl O₀ → ∀ (ivs : List Value) (ns : List Int), IntsAre ivs ns → ns.length ≤ 24 →
  ∃ nn k, k ≤ 150 ∧ ∀ t u, tSort tl nn k 1 ns.length (fun _ σ => LawGood kind true ivs σ ∧ σ.n < 100000) (fun σ => LawGood kind false ivs σ ∧ σ.n < 100000) (sg0 ivs O₀ t u)

section
variable {prog : Program} {w : World} {G : Heap} {A : Around} {outer : List Env} {L fa aX aP aS aH aK aO : Addr} {cd : Value} {h₀ h h' : Heap} {m m' cm : Str → Option Value} {E : Value → Shared → Prop} {s : Shared} {kind : Int} {done : Bool} {ivs : List Value} {ns : List Int} {orel : ORel} {σ : Sg} {Qb : Flow → Shared → Prop}

theorem TabQ.ne_plain {want : List (Pos × Str)} {P a : Addr} {its : Array Value} (x : TabQ want P h) (p : h.PlainList a its) : a ≠ P := fun q => by
  obtain ⟨_, e⟩ := p; obtain ⟨_, e', _⟩ := x; rw [q, e'] at e; cases e

set_option maxHeartbeats 1000000 in
theorem law_p4 (X : LG w G) (HR : RowsOk) (B : Bl G Wt A outer (envLaw L fa cd) L (cellsLaw L) h₀ 240 2300 m cm s.heap) (Z : LawAt kind done ivs ns aX aP aS aH aK aO orel σ m cm s.heap)
    (hQ : ∀ h' tk, G.StaysIn h' → KpL (outer.filterMap (·.frame)) Wt h₀ h' → Tabs h' → Qb (.ret (.bool true)) { s with heap := h', toks := tk }) :
    wpAny (model prog w) A (execs ((sBody (topS 11)).drop 4) (envLaw L fa cd)) Qb E s := by
  obtain ⟨p, loose, mean, mg, mb, T⟩ := X.T
  have T' := topRead_of T
  have hWG : ∀ b ∈ Wt, G.get? b = none := X.hid
  obtain ⟨nn, k, hk, Hr⟩ := HR
  have hvl := Z.hi.length
  have hl := Z.hl
  refine wpAny_execs_cons ?_
  refine wpAny_If ?_
  refine isTrue_not ?_
  refine isTrue_plain ?_
  refine Call_ ?_
  refine nameX_K B.fr X.X T' (v := .ref 132) (by kernel_rfl) ?_
  refine callWith_K (h₀ := G) X.X (by kernel_rfl) ?_
  refine args_cons ?_
  refine Subscript_ ?_
  refine nameX_L B.fr Z.lx ?_
  refine wpAny_Slice ?_
  refine wpAny_evalPart_none ?_
  refine wpAny_evalPart_some ?_
  refine wpAny_Constant_int ?_
  refine wpAny_evalPart_none ?_
  refine bl_slice (s := { s with toks := _ }) B Z.pI.isList .none (.int 6 _) (by lia) (fun aD h1 B1 p1 k1 l1 n1 => ?_)
  have hi1 := kmk_upto (y := 6) Z.hi (by decide)
  generalize hz : (slicePick ivs.toArray none (some 6) none).toList = zs at hi1
  have hz' : slicePick ivs.toArray none (some 6) none = zs.toArray := by rw [← hz]
  rw [hz'] at p1
  refine args_nil ⟨X.X.keeps B1.fr.keep, ?_⟩
  have Z1 := Z.keeps k1
  have hz6 : (ns.take (6 : Int).toNat).length ≤ 6 := by rw [List.length_take]; exact Nat.min_le_left _ _
  have lowW : ∀ x, L ≤ x → x ∉ Wt := fun x hx q => Nat.lt_irrefl _ (Nat.lt_of_lt_of_le (X.sz x q) (Nat.le_trans B.fr.above hx))
  refine bl_callV (s := { s with heap := h1, toks := _ }) (ends_meetsL X hi1 hz6 hk (fun bs hb t u => Hr _ _ hi1 hz6 bs hb t u)) B1 (fun b hb => .inl (.tail _ hb)) hWG (by lia) (by lia) ⟨p1, Z1.tabs.1, Z1.tabs.2.1, B1.gl _ (Nat.le_of_lt l1), lowW _ (Nat.le_of_lt l1)⟩ (fun v h4 tk4 B4 q4 _ kd4 => ?_)
  obtain ⟨q4, q5, q6⟩ := q4
  subst q4
  refine wpAny_truthy_bool ?_
  simp only [Bool.not_true, Bool.false_eq_true, ↓reduceIte]
  refine wpAny_execs_nil ?_
  have off : ∀ {a : Addr} {its : Array Value}, h1.PlainList a its → h4.PlainList a its := fun {a its} pp => kd4.plain (fun q => by
    rcases List.mem_cons.mp q with q | q
    · exact Z1.tabs.1.ne_plain pp q
    · exact Z1.tabs.2.1.ne_plain pp (List.mem_singleton.mp q)) pp
  have Z4 : LawAt kind done ivs ns aX aP aS aH aK aO orel σ m cm h4 := by
    obtain ⟨⟨vs, s1, s2⟩, ⟨vo, o1, o2⟩⟩ := And.intro Z1.ru.s Z1.ru.o
    exact { Z1 with
      pI := off Z1.pI
      ru := { Z1.ru with p := off Z1.ru.p, s := ⟨vs, off s1, s2⟩, hh := off Z1.ru.hh, k := off Z1.ru.k, o := ⟨vo, off o1, o2⟩ }
      tabs := ⟨q5, q6, Z1.tabs.2.2.kpd kd4 (by decide) (fun b hb => .inl (.tail _ hb))⟩ }
  exact law_p5 (s := { s with heap := h4, toks := _ }) X B4 Z4 hQ
end
end Mine
end

section
open PySem PySem.W PySem.Calls PyProof.Rows PySem.Spec PySem.SeqAt PyProof.V
set_option Elab.async false
set_option maxRecDepth 100000
namespace Mine
section
variable {prog : Program} {w : World} {G : Heap} {A : Around} {outer : List Env} {L fa aX aW : Addr} {cd : Value} {h₀ h h' : Heap} {m m' cm : Str → Option Value} {E : Value → Shared → Prop} {s : Shared} {kind : Int} {ivs xs : List Value} {ns us : List Int} {Qb : Flow → Shared → Prop}

theorem KindIs.len {kind : Int} {orel : ORel} {tl : Value → Value → Tr Bool} {O₀ : List Bool} (x : KindIs kind orel tl O₀) : O₀.length ≤ 1000 := by
  cases x with
  | up => decide
  | down => decide
  | rest => decide
  | chance tb => simp [future]
theorem KindIs.o0 {kind : Int} {orel : ORel} {tl : Value → Value → Tr Bool} {O₀ : List Bool} (x : KindIs kind orel tl O₀) (t : Tok) : orel O₀ [.int 0 t] := by
  cases x with
  | up => trivial
  | down => trivial
  | rest => trivial
  | chance tb => exact ⟨0, t, rfl, rfl⟩

set_option maxHeartbeats 4000000 in
theorem law_p2 (X : LG w G) (HR : RowsOk) (HM : MainOk) (B : Bl G Wt A outer (envLaw L fa cd) L (cellsLaw L) h₀ 240 2300 m cm s.heap)
    (m1 : m "script" = some (.ref aW)) (m2 : ∃ t, m "kind" = some (.int kind t)) (m3 : m "some" = some (.ref aX)) (pX : s.heap.PlainList aX ivs.toArray) (hi : IntsAre ivs ns) (hl : ns.length ≤ 24) (gX : G.get? aX = none) (wX : aX ∉ Wt) (tb : Tabs s.heap) (hk : 0 ≤ kind ∧ kind ≤ 3) (hx : G.IsList aW xs.toArray) (hu : IntsAre xs us) (hul : us.length ≤ 1000)
    (hQ : ∀ h' tk, G.StaysIn h' → KpL (outer.filterMap (·.frame)) Wt h₀ h' → Tabs h' → Qb (.ret (.bool true)) { s with heap := h', toks := tk }) :
    wpAny (model prog w) A (execs ((sBody (topS 11)).drop 2) (envLaw L fa cd)) Qb E s := by
  refine hide fun gl9 hg9 => ?_
  obtain ⟨p, loose, mean, mg, mb, T⟩ := X.T
  refine hg9 ?_
  clear hg9 gl9
  have T' := topRead_of T
  have hWG : ∀ b ∈ Wt, G.get? b = none := X.hid
  obtain ⟨tk, m2⟩ := m2
  have hvl := hi.length
  have lowX : ∀ x, L ≤ x → ∀ b ∈ Wt, x ≠ b := fun x hx b hb q => Nat.lt_irrefl _ (Nat.lt_of_lt_of_le (X.sz b hb) (Nat.le_trans B.fr.above (q ▸ hx)))
  have lowW : ∀ x, L ≤ x → x ∉ Wt := fun x hx q => lowX x hx x q rfl
  refine wpAny_execs_cons ?_
  refine Assign_Tuple ?_
  refine Tuple_ ?_
  refine args_cons ?_
  refine List_ ?_
  refine args_nil ?_
  refine bl_newList B (fun aS h1 B1 p1 k1 l1 n1 => ?_)
  refine args_cons ?_
  refine List_ ?_
  refine args_nil ?_
  refine bl_newList (s := { s with heap := h1 }) B1 (fun aH h2 B2 p2 k2 l2 n2 => ?_)
  refine args_cons ?_
  refine List_ ?_
  refine args_nil ?_
  refine bl_newList (s := { s with heap := h2 }) B2 (fun aK h3 B3 p3 k3 l3 n3 => ?_)
  refine args_cons ?_
  refine Call_ ?_
  refine nameX_B B3.fr X.X T' (by kernel_rfl) boot_len (by decide) ?_
  refine PyProof.Rows.callWith_builtin1 ?_
  refine args_cons ?_
  refine nameX_L B3.fr m3 ?_
  refine args_nil ?_
  have k13 : ∀ b o, s.heap.get? b = some o → h3.get? b = some o := fun b o e => k3 _ _ (k2 _ _ (k1 _ _ e))
  refine call_len_list (pX.at (k13 _)).isList (by rw [List.size_toArray]; lia) ?_
  have elen : ((ivs.toArray.size : Nat) : Int) = (ivs.length : Int) := by rw [List.size_toArray]
  rw [elen]
  refine args_nil ?_
  refine bl_newTuple (s := { s with heap := h3, toks := _ }) B3 (fun aT h4 B4 it4 k4 l4 => ?_)
  refine assign_Tuple_tuple (s := { s with heap := h4, toks := _ }) B4.hd it4 rfl rfl fun h5 he => ?_
  have k5 : h4.StaysIn h5 := fun b o e => he b o (Nat.ne_of_lt (Heap.lt_size e)) e
  have B5 := B4.grow k5
  have rm5 : RM [(aX, ivs.toArray), (aS, #[]), (aH, #[]), (aK, #[])] [] h5 := by
    exact ⟨all4 (((pX.at (k13 _)).at (k4 _)).at (k5 _)) ((((p1.at (k2 _)).at (k3 _)).at (k4 _)).at (k5 _)) (((p2.at (k3 _)).at (k4 _)).at (k5 _)) ((p3.at (k4 _)).at (k5 _)), fun f hf => by cases hf⟩
  have rl : ∀ q ∈ ([(aX, ivs.toArray), (aS, #[]), (aH, #[]), (aK, #[])] : List (Addr × Array Value)), q.1 ∉ Wt := all4 wX (lowW _ (Nat.le_of_lt l1)) (lowW _ (Nat.le_of_lt l2)) (lowW _ (Nat.le_of_lt l3))
  have tb5 : Tabs h5 := ((tb.keeps k13).keeps k4).keeps k5
  refine assignInOrder_cons (PyProof.Rows.assign_Name ?_)
  refine bl_store (s := { s with heap := h5, toks := _ }) B5 (fun h6 B6 k6 => ?_)
  have kd6 : KpD [] h5 h6 := kpd_store B5.fr.ns k6
  refine assignInOrder_cons (PyProof.Rows.assign_Name ?_)
  refine bl_store (s := { s with heap := h6, toks := _ }) B6 (fun h7 B7 k7 => ?_)
  have kd7 : KpD [] h6 h7 := kpd_store B6.fr.ns k7
  refine assignInOrder_cons (PyProof.Rows.assign_Name ?_)
  refine bl_store (s := { s with heap := h7, toks := _ }) B7 (fun h8 B8 k8 => ?_)
  have kd8 : KpD [] h7 h8 := kpd_store B7.fr.ns k8
  refine assignInOrder_cons (PyProof.Rows.assign_Name ?_)
  have hcell := B8.cl.cell "many" (L + 1) (by rfl)
  refine bl_storeC (s := { s with heap := h8, toks := _ }) B8 (c := L + 1) (by rfl) (fun h9 B9 k9 => wpAny_pure ?_)
  have kd58 : KpD [] h5 h8 := (kd6.trans kd7).trans kd8
  have rm8 := rm5.kpd kd58 (fun b hb => by cases hb) rl
  have rm9 := rm8.kpd (KpD.of_kp k9) (soft2_cell hcell) rl
  have tb8 : Tabs h8 := tb5.kpd kd58
  have cW : ∀ b ∈ Wt, b ∉ [L + 1] := fun b hb q => lowX (L + 1) (Nat.le_succ L) b hb (List.mem_singleton.mp q).symm
  have tb9 : Tabs h9 := ⟨tb8.1.kpd (KpD.of_kp k9) (cW _ (by simp)) (soft2_cell hcell).v, tb8.2.1.kpd (KpD.of_kp k9) (cW _ (by simp)) (soft2_cell hcell).v, tb8.2.2.kpd (KpD.of_kp k9) (cW _ (by simp)) (soft2_cell hcell).v⟩
  -- the run
  refine wpAny_execs_cons ?_
  refine Assign_Tuple ?_
  refine Call_ ?_
  refine nameX_K B9.fr X.X T' (v := .ref 118) (by kernel_rfl) ?_
  refine callWith_K (h₀ := G) X.X (by kernel_rfl) ?_
  refine args_cons ?_
  refine nameX_L B9.fr (by exact m3) ?_
  refine args_cons ?_
  refine Call_ ?_
  refine nameX_K B9.fr X.X T' (v := .ref 111) (by kernel_rfl) ?_
  refine callWith_K (h₀ := G) X.X (by kernel_rfl) ?_
  refine args_cons ?_
  refine nameX_L B9.fr (by exact m1) ?_
  refine args_cons ?_
  refine nameX_L B9.fr (by exact m2) ?_
  refine args_cons ?_
  refine List_ ?_
  refine args_cons ?_
  refine wpAny_Constant_int ?_
  refine args_nil ?_
  refine bl_newList (s := { s with heap := h9, toks := _ }) B9 (fun aO h10 B10 p10 k10 l10 n10 => ?_)
  have rm10 := rm9.kpd (KpD.of (V := []) k10) (fun b hb => by cases hb) rl
  have tb10 := tb9.keeps k10
  refine args_nil ⟨X.X.keeps B10.fr.keep, ?_⟩
  refine bl_callV (s := { s with heap := h10, toks := _ }) (less_meetsL X hk hx (ans_meetsL X hx hu hul)) B10 (fun b hb => .inl (by rw [List.mem_singleton.mp hb]; simp)) hWG (by lia) (by lia) tb10.2.2 (fun fv h11 tk11 B11 q11 _ kd11 => ?_)
  refine hide fun gl9 hg9 => ?_
  obtain ⟨fl, D, orel, tl, O₀, rfl, hkind, fn11, fw11, le11, dD, tq11⟩ := q11
  refine hg9 ?_
  clear hg9 gl9
  have h106 : ∀ {h : Heap}, Soft2 [106] h := soft2_tab (by simp)
  have rm11 := rm10.kpd kd11 h106 rl
  have p11 := kd11.plain (fun q => lowX aO (Nat.le_of_lt l10) 106 (by simp) (List.mem_singleton.mp q)) p10
  have tb11 : Tabs h11 := ⟨tb10.1.kpd kd11 (by decide) h106.v, tb10.2.1.kpd kd11 (by decide) h106.v, tq11⟩
  refine args_cons ?_
  refine nameX_L B11.fr rfl ?_
  refine args_cons ?_
  refine nameX_L B11.fr rfl ?_
  refine args_cons ?_
  refine nameX_L B11.fr rfl ?_
  refine args_nil ⟨X.X.keeps B11.fr.keep, ?_⟩
  refine hide fun gl9 hg9 => ?_
  obtain ⟨nn, k, hk150, Hs⟩ := HM kind orel tl O₀ hkind ivs ns hi hl
  refine hg9 ?_
  clear hg9 gl9
  have r9 := rm9.1
  have eX := (List.forall_mem_cons.mp r9).1
  have r9 := (List.forall_mem_cons.mp r9).2
  have eS := (List.forall_mem_cons.mp r9).1
  have r9 := (List.forall_mem_cons.mp r9).2
  have eH := (List.forall_mem_cons.mp r9).1
  have eK := (List.forall_mem_cons.mp (List.forall_mem_cons.mp r9).2).1
  have nd : [aX, aS, aH, aK, aO].Nodup :=
    nodup5 (all4 (plain_ne pX n1) (plain_ne (pX.at (k1 _)) n2) (plain_ne ((pX.at (k1 _)).at (k2 _)) n3) (plain_ne eX n10)) (all3 (plain_ne p1 n2) (plain_ne (p1.at (k2 _)) n3) (plain_ne eS n10)) (plain_ne p2 n3) (plain_ne eH n10) (plain_ne eK n10)
  have r11 := rm11.1
  have q11X := (List.forall_mem_cons.mp r11).1
  have r11 := (List.forall_mem_cons.mp r11).2
  have q11S := (List.forall_mem_cons.mp r11).1
  have r11 := (List.forall_mem_cons.mp r11).2
  have q11H := (List.forall_mem_cons.mp r11).1
  have q11K := (List.forall_mem_cons.mp (List.forall_mem_cons.mp r11).2).1
  have pre : RunPre prog w G aX aS aH aK aO fl orel tl ivs ns O₀ D h11 := by
    refine ⟨tb11.1, q11X, hi, hl, q11S, q11H, q11K, ⟨_, p11, hkind.o0 _⟩, hkind.len, nd, all5 (p := fun b => G.get? b = none ∧ b ∉ Wt) ⟨gX, wX⟩ ⟨B11.gl _ (Nat.le_of_lt l1), lowW _ (Nat.le_of_lt l1)⟩ ⟨B11.gl _ (Nat.le_of_lt l2), lowW _ (Nat.le_of_lt l2)⟩ ⟨B11.gl _ (Nat.le_of_lt l3), lowW _ (Nat.le_of_lt l3)⟩ ⟨B11.gl _ (Nat.le_of_lt l10), lowW _ (Nat.le_of_lt l10)⟩, fn11, fw11, le11, fun d hd => ⟨fun q => ?_, (dD d hd).2⟩⟩
    have dn := (dD d hd).1
    exact all4 (p := fun y => d ≠ y) (plain_ne (eS.at (k10 _)) dn) (plain_ne (eH.at (k10 _)) dn) (plain_ne (eK.at (k10 _)) dn) (plain_ne p10 dn) d q rfl
  have soft : Soft Wt L [aS, aH, aK, aO, 113] h11 := all5 (.inr ⟨l1, soft_plain pre.S⟩) (.inr ⟨l2, soft_plain pre.H⟩) (.inr ⟨l3, soft_plain pre.K⟩) (.inr ⟨l10, soft_plain p11⟩) (.inl (by simp))
  have np : ∀ {b : Addr} {its : Array Value}, h11.PlainList b its → ∀ o vs, h11.get? b = some o → o.data ≠ .fields vs := fun ⟨_, e⟩ o vs e' d => by rw [e] at e'; cases e'; cases d
  have softV : ∀ b ∈ [aS, aH, aK, aO, 113], b ∈ Wt ∨ ∀ o vs, h11.get? b = some o → o.data ≠ .fields vs := all5 (.inr (np pre.S)) (.inr (np pre.H)) (.inr (np pre.K)) (.inr (np p11)) (.inl (by simp))
  have notU : ∀ x ∈ Wt, x ≠ 113 → x ∉ [aS, aH, aK, aO, 113] := fun x hx hne q =>
    all5 (p := fun y => y ∈ Wt → y ≠ 113 → False) (fun z _ => lowW _ (Nat.le_of_lt l1) z) (fun z _ => lowW _ (Nat.le_of_lt l2) z) (fun z _ => lowW _ (Nat.le_of_lt l3) z) (fun z _ => lowW _ (Nat.le_of_lt l10) z) (fun _ z => z rfl) x q hx hne
  refine bl_callV (s := { s with heap := h11, toks := tk11 }) (run_meetsL X hk150 Hs) B11 soft hWG (by lia) (by lia) pre (fun rv h12 tk12 B12 q12 _ kd12 => ?_)
  refine hide fun gl9 hg9 => ?_
  obtain ⟨aP, aT5, σ', b, rfl, it12, nP, nT, ru12, hq12, tr12⟩ := q12
  refine hg9 ?_
  clear hg9 gl9
  have pX12 : h12.PlainList aX ivs.toArray := kd12.plain (fun q => by
    rcases List.mem_append.mp (show aX ∈ [aS, aH, aK, aO] ++ [113] from q) with q | q
    · exact (List.nodup_cons.mp nd).1 q
    · exact wX (by rw [List.mem_singleton.mp q]; simp)) pre.x
  have tb12 : Tabs h12 := ⟨tr12, tb11.2.1.kpd kd12 (notU 120 (by simp) (by decide)) softV, tb11.2.2.kpd kd12 (notU 106 (by simp) (by decide)) softV⟩
  refine assign_Tuple_tuple (s := { s with heap := h12, toks := _ }) B12.hd it12 rfl rfl fun h13 he13 => ?_
  have k13' : h12.StaysIn h13 := fun b o e => he13 b o (Nat.ne_of_lt (Heap.lt_size e)) e
  have B13 := B12.grow k13'
  refine assignInOrder_cons (PyProof.Rows.assign_Name ?_)
  refine bl_store (s := { s with heap := h13, toks := _ }) B13 (fun h14 B14 k14 => ?_)
  have kd14 : KpD [] h13 h14 := kpd_store B13.fr.ns k14
  refine assignInOrder_cons (PyProof.Rows.assign_Name ?_)
  refine bl_store (s := { s with heap := h14, toks := _ }) B14 (fun h15 B15 k15 => wpAny_pure ?_)
  have kd15 : KpD [] h14 h15 := kpd_store B14.fr.ns k15
  have kd : KpD [] h12 h15 := ((KpD.of k13').trans kd14).trans kd15
  have good : LawGood kind b ivs σ' ∧ σ'.n < 100000 := by
    cases b with
    | true => exact hq12
    | false => exact hq12
  refine hide fun gl9 hg9 => ?_
  obtain ⟨⟨vs, s1, s2⟩, ⟨vo, o1, o2⟩⟩ := And.intro ru12.s ru12.o
  refine hg9 ?_
  clear hg9 gl9
  refine law_p4 (s := { s with heap := h15, toks := _ }) (kind := kind) (done := b) (ivs := ivs) (ns := ns) (aX := aX) (aP := aP) (aS := aS) (aH := aH) (aK := aK) (aO := aO) (orel := orel) (σ := σ') X HR B15 ?_ hQ
  exact {
    lk := ⟨tk, by exact m2⟩
    lx := by exact m3
    lS := rfl
    lH := rfl
    lK := rfl
    lP := rfl
    ld := rfl
    lc := ⟨_, rfl⟩
    pI := kd.plain (by simp) pX12
    hi := hi
    hl := hl
    ru := { ru12 with p := kd.plain (by simp) ru12.p, s := ⟨vs, kd.plain (by simp) s1, s2⟩, hh := kd.plain (by simp) ru12.hh, k := kd.plain (by simp) ru12.k, o := ⟨vo, kd.plain (by simp) o1, o2⟩ }
    nb := good.2
    good := good.1
    hk := hk
    tabs := tb12.kpd kd }
end
end Mine
end

section
open PySem PySem.W PySem.Calls PyProof.Rows PySem.Spec PySem.SeqAt PyProof.V
set_option Elab.async false
set_option maxRecDepth 100000
namespace Mine
section
variable {prog : Program} {w : World} {G : Heap} {A : Around} {outer : List Env} {L fa aX aW : Addr} {cd : Value} {h₀ h h' : Heap} {m m' cm : Str → Option Value} {E : Value → Shared → Prop} {s : Shared} {kind : Int} {ivs xs : List Value} {ns us : List Int} {Qb : Flow → Shared → Prop}

theorem paired_ints {f : Int → Int} {vs ys : List Value} (p : Paired (fun v y => ∃ n t t', v = .int n t ∧ y = .int (f n) t') vs ys) : ∀ {ns : List Int}, IntsAre vs ns → IntsAre ys (ns.map f) := by
  induction p with
  | nil => intro ns x; cases x; exact .nil
  | cons h _ ih =>
    intro ns x
    obtain ⟨n, t, t', rfl, rfl⟩ := h
    cases x with
    | cons a b c => exact .cons _ _ (ih c)

set_option maxHeartbeats 4000000 in
theorem law_p1 (X : LG w G) (HR : RowsOk) (HM : MainOk) (B : Bl G Wt A outer (envLaw L fa cd) L (cellsLaw L) h₀ 240 2300 m cm s.heap)
    (m1 : m "script" = some (.ref aW)) (m2 : ∃ t, m "kind" = some (.int kind t)) (tb : Tabs s.heap) (hk : 0 ≤ kind ∧ kind ≤ 3) (hx : G.IsList aW xs.toArray) (hu : IntsAre xs us) (hul : us.length ≤ 1000)
    (hQ : ∀ h' tk, G.StaysIn h' → KpL (outer.filterMap (·.frame)) Wt h₀ h' → Tabs h' → Qb (.ret (.bool true)) { s with heap := h', toks := tk }) :
    wpAny (model prog w) A (execs ((sBody (topS 11)).drop 1) (envLaw L fa cd)) Qb E s := by
  refine hide fun gl9 hg9 => ?_
  obtain ⟨p, loose, mean, mg, mb, T⟩ := X.T
  refine hg9 ?_
  clear hg9 gl9
  have T' := topRead_of T
  have hWG : ∀ b ∈ Wt, G.get? b = none := X.hid
  have hvl := hu.length
  refine wpAny_execs_cons ?_
  refine wpAny_Assign_ListComp_free (fun _ => true) (fun v y => ∃ n t t', v = .int n t ∧ y = .int ((fun n : Int => n.fmod 19 - 9) n) t') (cl := []) (by rfl) (by rfl) (by decide) rfl (by decide) (by rfl) (by rfl) (by rfl) ?_
  refine Subscript_ ?_
  refine nameX_L B.fr m1 ?_
  refine wpAny_Slice ?_
  refine wpAny_evalPart_some ?_
  refine wpAny_Constant_int ?_
  refine wpAny_evalPart_some ?_
  refine wpAny_Constant_int ?_
  refine wpAny_evalPart_none ?_
  refine bl_slice (s := { s with toks := _ }) B (hx.at fun o e => B.fr.keep _ _ e) (.int 1 _) (.int 25 _) (by lia) (fun aD h1 B1 p1 k1 l1 n1 => ?_)
  have hi1 := kmk_run (x := 1) (y := 25) hu (by decide) (by decide)
  generalize hz : (slicePick xs.toArray (some 1) (some 25) none).toList = zs at hi1
  have hz' : slicePick xs.toArray (some 1) (some 25) none = zs.toArray := by rw [← hz]
  rw [hz'] at p1
  generalize hus : (us.drop (1 : Int).toNat).take (min (25 : Int).toNat us.length - (1 : Int).toNat) = ws at hi1
  have hwl : ws.length ≤ 24 := by
    rw [← hus, List.length_take]
    have : (min (25 : Int).toNat us.length - (1 : Int).toNat) ≤ 24 := by
      have : (25 : Int).toNat = 25 := rfl
      have : (1 : Int).toNat = 1 := rfl
      lia
    exact Nat.le_trans (Nat.min_le_left _ _) this
  have hne : aD ≠ h1.objs.size := by obtain ⟨n, e⟩ := p1; exact Nat.ne_of_lt (Heap.lt_size e)
  refine wpAny_pyIter_list p1.isList ?_
  have k2 : h1.StaysIn (h1.push { cls := .type "list_iterator", data := .fields #[.ref aD, .int 0 0] }) := fun b o e => Heap.get?_push_of_some _ e
  have B2 := B1.grow k2
  refine ⟨_, _, _, _, _, _, _, rfl, walk_list B.hd hne, by rw [sizeLine_eq, hi1.length]; lia, ⟨⟨_, Heap.get?_push_size _ rfl, rfl, rfl⟩, p1.isList.push _⟩, fun b hb => ?_, fun q => ?_, B2.fr.ns, ⟨?_, ?_⟩, ?_⟩
  · show b < (h1.push _).objs.size
    rw [Heap.size_push]
    rcases List.mem_cons.mp hb with rfl | hb
    · exact Nat.lt_succ_self _
    · rw [List.mem_singleton.mp hb]; obtain ⟨n, e⟩ := p1; exact Nat.lt_succ_of_lt (Heap.lt_size e)
  · have : L < h1.objs.size := B1.fr.ns.lt
    exact Nat.lt_irrefl _ ((show L = _ from List.mem_singleton.mp q) ▸ this)
  · intro C i v s₃ m₃ E' _ hv ns mx kp _
    exact wpAny_pure ⟨rfl, _, _, rfl, fun _ _ e => e⟩
  · intro C i v s₃ m₃ E' _ hv _ ns mx kp _
    obtain ⟨a, t, rfl, ha⟩ := ints_at hi1 hv
    refine wpAny_BinOp ?_
    refine wpAny_BinOp ?_
    refine wpAny_Name (wpAny_loadName_local (by rfl) (by rfl) ns mx ?_) (by decide)
    refine wpAny_Constant_int ?_
    refine PyProof.Rows.mod_int (by decide) ?_
    refine wpAny_Constant_int ?_
    refine PyProof.Rows.sub_int ?_
    exact ⟨⟨a, t, _, rfl, rfl⟩, _, _, rfl, fun _ _ e => e⟩
  · intro D h3 tk3 ys vs' nD _ pD hlen hP hF hns hk3
    have ev : vs' = zs := List.ext_getElem? fun j => by
      cases e : vs'[j]? with
      | none =>
        have := List.getElem?_eq_none_iff.mp e
        symm; rw [List.getElem?_eq_none_iff]; lia
      | some v => exact (hP j v e).symm
    have ef : vs'.filter (fun _ => true) = zs := by rw [ev]; exact List.filter_eq_self.mpr (fun _ _ => rfl)
    rw [ef] at hF
    have hys := paired_ints hF hi1
    have pD' : h3.PlainList D ys.toList.toArray := by simpa using pD
    have old : ∀ b o, b ≠ L → h1.get? b = some o → h3.get? b = some o := fun b o hb e => hk3 b o hb (fun q => by rw [List.mem_singleton.mp q, Heap.get?_none_of_le (Nat.le_refl _)] at e; cases e) (k2 _ _ e)
    have B3 := B1.stored hWG [] (fun b hb => by cases hb) hns (fun b o hb _ e => old b o hb e)
    have nD1 : h1.get? D = none := by
      cases e : h1.get? D with
      | none => rfl
      | some o => rw [k2 _ _ e] at nD; cases nD
    have kd : KpD [] h1 h3 := fun b o _ d e => old b o (fun q => by
      obtain ⟨o', es, ep, e', hd, _⟩ := B1.fr.ns
      rw [q, e'] at e; cases e
      exact d _ _ hd) e
    have tb3 : Tabs h3 := (tb.keeps k1).kpd kd
    have gD : G.get? D = none := by
      cases e : G.get? D with
      | none => rfl
      | some o => rw [B1.fr.keep _ _ e] at nD1; cases nD1
    have wD : D ∉ Wt := fun q => by
      have tb1 := tb.keeps k1
      obtain ⟨⟨_, a1, _⟩, ⟨_, a2, _⟩, ⟨_, a3, _⟩⟩ := tb1
      simp only [List.mem_cons, List.not_mem_nil, or_false] at q
      rcases q with rfl | rfl | rfl
      · rw [nD1] at a3; cases a3
      · rw [nD1] at a1; cases a1
      · rw [nD1] at a2; cases a2
    obtain ⟨t2, m2⟩ := m2
    refine law_p2 (s := { s with heap := h3, toks := tk3 }) (ns := ws.map fun n : Int => n.fmod 19 - 9) X HR HM B3 (by exact m1) ⟨t2, by exact m2⟩ rfl pD' hys (by rw [List.length_map]; exact hwl) gD wD tb3 hk hx hu hul hQ

set_option maxHeartbeats 1000000 in
theorem law_p0 (X : LG w G) (HR : RowsOk) (HM : MainOk) (B : Bl G Wt A outer (envLaw L fa cd) L (cellsLaw L) h₀ 240 2300 m cm s.heap)
    (m1 : m "script" = some (.ref aW)) (tb : Tabs s.heap) (hx : G.IsList aW xs.toArray) (hu : IntsAre xs us) (hul : us.length ≤ 1000)
    (hQ : ∀ h' tk, G.StaysIn h' → KpL (outer.filterMap (·.frame)) Wt h₀ h' → Tabs h' → Qb (.ret (.bool true)) { s with heap := h', toks := tk }) :
    wpAny (model prog w) A (execs (sBody (topS 11)) (envLaw L fa cd)) Qb E s := by
  refine hide fun gl9 hg9 => ?_
  obtain ⟨p, loose, mean, mg, mb, T⟩ := X.T
  refine hg9 ?_
  clear hg9 gl9
  have T' := topRead_of T
  have hvl := hu.length
  have pW := hx.at fun o e => B.fr.keep _ _ e
  refine wpAny_execs_cons ?_
  refine wpAny_Assign_Name ?_
  refine PyProof.Rows.IfExp_ ?_
  refine wpAny_isTrue_Compare1 ?_
  refine Call_ ?_
  refine nameX_B B.fr X.X T' (by kernel_rfl) boot_len (by decide) ?_
  refine PyProof.Rows.callWith_builtin1 ?_
  refine args_cons ?_
  refine nameX_L B.fr m1 ?_
  refine args_nil ?_
  refine call_len_list pW (by rw [List.size_toArray]; lia) ?_
  refine wpAny_Constant_int ?_
  refine PyProof.Rows.gt_int ?_
  refine wpAny_truthy_bool ?_
  by_cases hz : 0 < us.length
  · have e0 : decide ((0 : Int) < ((xs.toArray.size : Nat) : Int)) = true := by rw [List.size_toArray, decide_eq_true_iff]; lia
    simp only [e0, ↓reduceIte]
    obtain ⟨a, t, e1, e2⟩ : ∃ a t, xs[0]? = some (.int a t) ∧ us[0]? = some a := by
      cases hxs : xs[0]? with
      | none => rw [List.getElem?_eq_none_iff] at hxs; lia
      | some v => obtain ⟨a, t, rfl, f⟩ := ints_at hu hxs; exact ⟨a, t, rfl, f⟩
    refine wpAny_BinOp ?_
    refine Subscript_ ?_
    refine nameX_L B.fr m1 ?_
    refine wpAny_Constant_int ?_
    refine item_listL (x := .int a t) pW (by decide) (by decide) e1 ?_
    refine wpAny_Constant_int ?_
    refine PyProof.Rows.mod_int (by decide) ?_
    refine bl_store (s := { s with toks := _ }) B (fun h1 B1 k1 => ?_)
    have kd1 : KpD [] s.heap h1 := kpd_store B.fr.ns k1
    refine law_p1 (s := { s with heap := h1, toks := _ }) (kind := a.fmod 4) X HR HM B1 (by exact m1) ⟨_, rfl⟩ (tb.kpd kd1) ?_ hx hu hul hQ
    rw [Int.fmod_eq_emod_of_nonneg _ (by decide)]
    lia
  · have e0 : decide ((0 : Int) < ((xs.toArray.size : Nat) : Int)) = false := by rw [List.size_toArray, decide_eq_false_iff_not]; lia
    simp only [e0, Bool.false_eq_true, ↓reduceIte]
    refine wpAny_Constant_int ?_
    refine bl_store (s := { s with toks := _ }) B (fun h1 B1 k1 => ?_)
    have kd1 : KpD [] s.heap h1 := kpd_store B.fr.ns k1
    exact law_p1 (s := { s with heap := h1, toks := _ }) (kind := 0) X HR HM B1 (by exact m1) ⟨_, rfl⟩ (tb.kpd kd1) (by decide) hx hu hul hQ
end
end Mine
end

section
open PySem PySem.W PySem.Calls PyProof.Rows PySem.Spec PySem.SeqAt PyProof.V
set_option Elab.async false
set_option maxRecDepth 100000
namespace Mine
section
variable {prog : Program} {w : World} {G : Heap} {L fa aW : Addr} {cd : Value} {m : Str → Option Value} {E : Value → Shared → Prop} {s : Shared} {xs : List Value} {us : List Int} {Qb : Flow → Shared → Prop} {o : Obj} {cv : Option Value}

theorem law_start (X : LG w G) (HR : RowsOk) (HM : MainOk) (eL : G.objs.size ≤ L) (F : Fr G L s.heap m) (N : News G L s.heap [(L + 1, o), (120, tabObj #[]), (113, tabObj #[]), (106, tabObj #[])]) (ho : o.data = .cell cv)
    (m1 : m "script" = some (.ref aW)) (hx : G.IsList aW xs.toArray) (hu : IntsAre xs us) (hul : us.length ≤ 1000)
    (hQ : ∀ h' tk, G.StaysIn h' → Tabs h' → Qb (.ret (.bool true)) { s with heap := h', toks := tk }) :
    wpAny (model prog w) (callerA.deeper (envLaw L fa cd)) (execs (sBody (topS 11)) (envLaw L fa cd)) Qb E s := by
  have ec : cellsLaw L = [(("many" : Str), L + 1)] := by rfl
  have hnone : ∀ b, L ≤ b → G.get? b = none := fun b hb => Heap.get?_none_of_le (Nat.le_trans eL hb)
  have lw : ∀ b ∈ Wt, b < L := fun b hb => Nat.lt_of_lt_of_le (X.sz b hb) eL
  have B : Bl G Wt (callerA.deeper (envLaw L fa cd)) [] (envLaw L fa cd) L (cellsLaw L) G 240 2300 m (fun _ => cv) s.heap := by
    refine ⟨F, ⟨fun n c e => ?_, ?_, fun n c e => ?_⟩, ⟨fun b o _ _ e => F.keep b o e, fun b o _ e _ => ⟨o.slots, F.keep b o e⟩⟩, fun q => Nat.lt_irrefl _ (lw _ q), fun n c e q => ?_, hnone, Around.frames_deeper rfl, rfl, (by show 1 + claimMargin + 1 + 240 < recursionLimit; decide +kernel), (by show 4 + 3 + 2300 < cLine; decide +kernel), rfl, rfl, rfl, rfl, hnone, trivial, fun b hb => (nomatch hb), fun b hb => (nomatch hb), eL⟩
    · rw [ec] at e
      have hc : c = L + 1 := by
        simp only [List.lookup_cons, List.lookup_nil] at e
        split at e
        · exact (Option.some.inj e).symm
        · cases e
      subst hc
      exact ⟨o, (N (L + 1, o) (.head _)).1, ho⟩
    · rw [ec]; exact List.pairwise_singleton _ _
    · rw [ec] at e
      have hc : c = L + 1 := congrArg Prod.snd (List.mem_singleton.mp e)
      rw [hc]; exact Nat.lt_succ_self L
    · rw [ec] at e
      have hc : c = L + 1 := congrArg Prod.snd (List.mem_singleton.mp e)
      rw [hc] at q
      exact Nat.lt_irrefl _ (Nat.lt_trans (Nat.lt_succ_self L) (lw _ q))
  refine law_p0 X HR HM B m1 ⟨.empty (N (113, tabObj #[]) (by simp)).1, .empty (N (120, tabObj #[]) (by simp)).1, .empty (N (106, tabObj #[]) (by simp)).1⟩ hx hu hul (fun h' tk st _ tb => hQ h' tk st tb)
end
end Mine
end

section
open PySem PySem.W PySem.Calls PyProof.Rows PySem.Spec PySem.SeqAt PyProof.V
set_option Elab.async false
set_option maxRecDepth 100000
namespace Mine
section
variable {α β : Type} {Q : α → Sg → Prop} {Q' : β → Sg → Prop} {E : Sg → Prop} {σ : Sg} {tl : Value → Value → Tr Bool} {n : Nat}
theorem bnd {t : Tr β} {f : β → Tr α} (h : t (fun a σ' => f a Q E σ') E σ) : tBind t f Q E σ := h
theorem pur {a : α} (h : Q a σ) : tPure a Q E σ := h
theorem tIf {c : Prop} [Decidable c] {t e : Tr α} (h1 : c → t Q E σ) (h2 : ¬ c → e Q E σ) : (if c then t else e) Q E σ := by
  split
  · exact h1 ‹_›
  · exact h2 ‹_›
theorem tSort_eq {k : Nat} {low high : Int} : tSort tl n (k + 1) low high = if low < high then
      tBind (tTwo tl low high) fun _ => if high - low = 1 then tPure () else
      tBind (tMid tl low ((low + high) / 2) high) fun _ => if high - low = 2 then tPure () else
      tBind (tPart tl n low high) fun seam => if seam - low < high - seam then tBind (tSort tl n k low (seam - 1)) fun _ => tSort tl n k (seam + 1) high
        else tBind (tSort tl n k (seam + 1) high) fun _ => tSort tl n k low (seam - 1)
    else tPure () := rfl
theorem tUpW_eq {pivot v : Value} {high i : Int} : tUpW tl pivot high (n + 1) i v = tBind (tl v pivot) fun b => if b then (if high < i then tRaise else tBind (tGet (i + 1)) fun v' => tUpW tl pivot high n (i + 1) v') else tPure (i, v) := rfl
theorem tDownW_eq {pivot v : Value} {low i : Int} : tDownW tl pivot low (n + 1) i v = tBind (tl pivot v) fun b => if b then (if i < low then tRaise else tBind (tGet (i - 1)) fun v' => tDownW tl pivot low n (i - 1) v') else tPure (i, v) := rfl
theorem tPartW_eq {k : Nat} {pivot : Value} {low high up down : Int} : tPartW tl n pivot low high (k + 1) up down = tBind (tUp tl n pivot up high) fun uv => tBind (tHold uv.2) fun _ => tBind (tDown tl n pivot down low) fun dv => tBind tDrop fun _ =>
      if dv.1 < uv.1 then tPure uv.1 else tBind (tPut uv.1 dv.2) fun _ => tBind (tPut dv.1 uv.2) fun _ => tPartW tl n pivot low high k uv.1 dv.1 := rfl
end
end Mine
end

section
open PySem PySem.W PySem.Calls PyProof.Rows PySem.Spec PySem.SeqAt PyProof.V
set_option Elab.async false
set_option maxRecDepth 100000
namespace Mine

/-- the rows: lengths, the answers to come and the count -/
structure Rw (N : Nat) (O : List Bool) (B : Nat) (σ : Sg) : Prop where
  len : σ.P.length = N
  ok : ∀ v ∈ σ.P, VOk v
  o : σ.O = O
  n : σ.n ≤ B

section
variable {N B : Nat} {O : List Bool} {σ : Sg} {E : Sg → Prop}

theorem rget {i : Int} {Q : Value → Sg → Prop} (h : Rw N O B σ) (hi : 0 ≤ i) (hN : i < N) (hB : B < 1000) (k : ∀ v σ', VOk v → Rw N O (B + 1) σ' → Q v σ') : tGet i Q E σ := by
  have hl : i.toNat < σ.P.length := by rw [h.len]; omega
  refine ⟨hi, Nat.lt_of_le_of_lt h.n (Nat.lt_trans hB (by decide)), σ.P[i.toNat], List.getElem?_eq_getElem hl, fun hv => k _ _ hv ⟨h.len, h.ok, h.o, Nat.succ_le_succ h.n⟩⟩
theorem rput {i : Int} {v : Value} {Q : Unit → Sg → Prop} (h : Rw N O B σ) (hv : VOk v) (hi : 0 ≤ i) (hN : i < N) (hB : B < 1000) (k : ∀ σ', Rw N O (B + 1) σ' → Q () σ') : tPut i v Q E σ := by
  refine ⟨hi, by rw [h.len]; omega, Nat.lt_of_le_of_lt h.n (Nat.lt_trans hB (by decide)), hv, k _ ⟨by rw [List.length_set]; exact h.len, fun u hu => ?_, h.o, Nat.succ_le_succ h.n⟩⟩
  rcases List.mem_or_eq_of_mem_set hu with hu | rfl
  · exact h.ok u hu
  · exact hv
theorem rhold {v : Value} {Q : Unit → Sg → Prop} (h : Rw N O B σ) (hv : VOk v) (hB : B < 1000) (k : ∀ σ', Rw N O (B + 1) σ' → Q () σ') : tHold v Q E σ :=
  ⟨Nat.lt_of_le_of_lt h.n (Nat.lt_trans hB (by decide)), hv, k _ ⟨h.len, h.ok, h.o, Nat.succ_le_succ h.n⟩⟩
theorem rcmp {b : Bool} {x y : Value} {Q : Bool → Sg → Prop} (h : Rw N (b :: O) B σ) (k : ∀ σ', Rw N O B σ' → Q b σ') : tlRow x y Q E σ := by
  show (match σ.O with | [] => Q false σ | b :: r => Q b { σ with O := r })
  rw [h.o]
  exact k _ ⟨h.len, h.ok, rfl, h.n⟩

theorem rup {pivot : Value} {high : Int} {Q : Int × Value → Sg → Prop} (hE : ∀ σ, E σ) (hN : high + 1 < N) : ∀ (m fuel : Nat) (i : Int) (v : Value) (O : List Bool) (B : Nat) (σ : Sg), i + m = high + 1 → 0 ≤ i → m < fuel → B + m < 1000 → Rw N (List.replicate (m + 1) true ++ O) B σ → tUpW tlRow pivot high fuel i v Q E σ
  | m, 0, _, _, _, _, _, _, _, hf, _, _ => absurd hf (Nat.not_lt_zero _)
  | m, fuel + 1, i, v, O, B, σ, hi, h0, hf, hB, h => by
    rw [tUpW_eq]
    refine bnd (rcmp h (fun σ' h' => ?_))
    simp only [↓reduceIte]
    refine tIf (fun _ => hE _) (fun _ => bnd ?_)
    obtain ⟨m', rfl⟩ : ∃ m', m = m' + 1 := ⟨m - 1, by lia⟩
    refine rget h' (by lia) (by lia) (by lia) (fun v σ'' hv h'' => ?_)
    exact rup hE hN m' fuel (i + 1) v O (B + 1) σ'' (by lia) (by lia) (by lia) (by lia) h''
theorem rdown {pivot : Value} {low : Int} {Q : Int × Value → Sg → Prop} (hE : ∀ σ, E σ) (h1 : 1 ≤ low) : ∀ (m fuel : Nat) (i : Int) (v : Value) (O : List Bool) (B : Nat) (σ : Sg), i - m = low - 1 → i < N → m < fuel → B + m < 1000 → Rw N (List.replicate (m + 1) true ++ O) B σ → tDownW tlRow pivot low fuel i v Q E σ
  | m, 0, _, _, _, _, _, _, _, hf, _, _ => absurd hf (Nat.not_lt_zero _)
  | m, fuel + 1, i, v, O, B, σ, hi, h0, hf, hB, h => by
    rw [tDownW_eq]
    refine bnd (rcmp h (fun σ' h' => ?_))
    simp only [↓reduceIte]
    refine tIf (fun _ => hE _) (fun _ => bnd ?_)
    obtain ⟨m', rfl⟩ : ∃ m', m = m' + 1 := ⟨m - 1, by lia⟩
    refine rget h' (by lia) (by lia) (by lia) (fun v σ'' hv h'' => ?_)
    exact rdown hE h1 m' fuel (i - 1) v O (B + 1) σ'' (by lia) (by lia) (by lia) (by lia) h''
end

theorem rowsOk : RowsOk := by
  refine ⟨10, 1, by decide, fun ivs ns hi h6 bs hb t u => ?_⟩
  have hvl := hi.length
  have hs : Rw (ns.length + 2) bs 0 (sg0 ivs bs t u) := by
    refine ⟨by simp [hvl], fun v hv => ?_, rfl, Nat.le_refl _⟩
    simp only [List.mem_cons, List.mem_append, List.not_mem_nil, or_false] at hv
    rcases hv with rfl | hv | rfl
    · exact .inr (.inl ⟨_, rfl⟩)
    · exact ints_ok hi v hv
    · exact .inr (.inr ⟨_, rfl⟩)
  generalize sg0 ivs bs t u = σ at hs
  generalize ns.length = n at *
  rw [tSort_eq]
  refine tIf (fun h1 => bnd (bnd ?_)) (fun h1 => (by show n < 4; omega))
  rcases hb with rfl | rfl
  · -- all true
    obtain ⟨r, hr⟩ : ∃ r, row0 n = true :: true :: r ∧ r = List.replicate n true := ⟨_, by simp [row0, List.replicate], rfl⟩
    obtain ⟨hr, hr2⟩ := hr
    rw [hr] at hs
    refine rget hs (by lia) (by lia) (by decide) (fun v1 σ1 ok1 hs => ?_)
    refine rget hs (by lia) (by lia) (by decide) (fun v2 σ2 ok2 hs => ?_)
    refine rcmp hs (fun σ3 hs => ?_)
    show (tBind (tPut 1 v2) fun _ => tPut n v1) _ _ _
    refine rput hs ok2 (by lia) (by lia) (by decide) (fun σ4 hs => ?_)
    refine rput hs ok1 (by lia) (by lia) (by decide) (fun σ5 hs => ?_)
    refine tIf (fun h => (by show n < 4; omega)) (fun h2 => bnd (bnd ?_))
    refine rget hs (by lia) (by lia) (by decide) (fun v3 σ6 ok3 hs => ?_)
    refine rget hs (by lia) (by lia) (by decide) (fun v4 σ7 ok4 hs => ?_)
    refine rcmp hs (fun σ8 hs => ?_)
    show (tBind (tPut _ v4) fun _ => tPut 1 v3) _ _ _
    refine rput hs ok4 (by lia) (by lia) (by decide) (fun σ9 hs => ?_)
    refine rput hs ok3 (by lia) (by lia) (by decide) (fun σ10 hs => ?_)
    refine tIf (fun h => (by show n < 4; omega)) (fun h3 => bnd (bnd ?_))
    refine rget hs (by lia) (by lia) (by decide) (fun v5 σ11 ok5 hs => ?_)
    refine rget hs (by lia) (by lia) (by decide) (fun v6 σ12 ok6 hs => ?_)
    refine rput hs ok6 (by lia) (by lia) (by decide) (fun σ13 hs => ?_)
    refine rput hs ok5 (by lia) (by lia) (by decide) (fun σ14 hs => ?_)
    refine rget (E := fun _ => ¬ n < 4) hs (by lia) (by lia) (by decide) (fun v7 σ15 ok7 hs => ?_)
    refine rup (N := n + 2) (E := fun _ => ¬ n < 4) (fun σ => ?_) (by lia) (n - 1) 10 (1 + 1) v7 [] 13 σ15 (by lia) (by lia) (by lia) (by lia) (by rw [List.append_nil, Nat.sub_add_cancel (by lia), ← hr2]; exact hs)
    show ¬ n < 4
    omega
  · have hr : row1 n = false :: false :: false :: false :: List.replicate (n - 1) true := by simp [row1, List.replicate]
    rw [hr] at hs
    refine rget hs (by lia) (by lia) (by decide) (fun v1 σ1 ok1 hs => ?_)
    refine rget hs (by lia) (by lia) (by decide) (fun v2 σ2 ok2 hs => ?_)
    refine rcmp hs (fun σ3 hs => ?_)
    simp only [Bool.false_eq_true, ↓reduceIte]
    refine pur ?_
    refine tIf (fun h => (by show n < 4; omega)) (fun h2 => bnd (bnd ?_))
    refine rget hs (by lia) (by lia) (by decide) (fun v3 σ6 ok3 hs => ?_)
    refine rget hs (by lia) (by lia) (by decide) (fun v4 σ7 ok4 hs => ?_)
    refine rcmp hs (fun σ8 hs => ?_)
    simp only [Bool.false_eq_true, ↓reduceIte]
    refine bnd ?_
    refine rget hs (by lia) (by lia) (by decide) (fun v5 σ9 ok5 hs => ?_)
    refine rcmp hs (fun σ10 hs => ?_)
    simp only [Bool.false_eq_true, ↓reduceIte]
    refine pur ?_
    refine tIf (fun h => (by show n < 4; omega)) (fun h3 => bnd (bnd ?_))
    refine rget hs (by lia) (by lia) (by decide) (fun v5 σ11 ok5 hs => ?_)
    refine rget hs (by lia) (by lia) (by decide) (fun v6 σ12 ok6 hs => ?_)
    refine rput hs ok6 (by lia) (by lia) (by decide) (fun σ13 hs => ?_)
    refine rput hs ok5 (by lia) (by lia) (by decide) (fun σ14 hs => ?_)
    refine rget (E := fun _ => ¬ n < 4) hs (by lia) (by lia) (by decide) (fun v7 σ15 ok7 hs => ?_)
    refine bnd (rcmp (E := fun _ => ¬ n < 4) hs (fun σ16 hs => ?_))
    simp only [Bool.false_eq_true, ↓reduceIte]
    refine pur ?_
    refine rhold (E := fun _ => ¬ n < 4) hs ok7 (by decide) (fun σ17 hs => ?_)
    refine rget (E := fun _ => ¬ n < 4) hs (by lia) (by lia) (by decide) (fun v8 σ18 ok8 hs => ?_)
    refine rdown (N := n + 2) (E := fun _ => ¬ n < 4) (fun σ => ?_) (by decide) (n - 2) 10 ((n : Int) - 1 - 1) v8 [] 12 σ18 (by lia) (by lia) (by lia) (by lia) (by rw [List.append_nil, show n - 2 + 1 = n - 1 by lia]; exact hs)
    show ¬ n < 4
    omega
end Mine
end

section
open PySem PySem.W PySem.Calls PyProof.Rows PySem.Spec PySem.SeqAt PyProof.V
set_option Elab.async false
set_option maxRecDepth 100000
namespace Mine

/-- what lies at i -/
def gI (P : List Value) (i : Int) : Option Value := P[i.toNat]?
theorem gI_set {P : List Value} {i j : Int} {v : Value} (hi : 0 ≤ i) (hj : 0 ≤ j) (hl : i.toNat < P.length) : gI (P.set i.toNat v) j = if j = i then some v else gI P j := by
  unfold gI
  rw [List.getElem?_set]
  by_cases e : j = i
  · subst e; simp [hl]
  · have : i.toNat ≠ j.toNat := by lia
    simp [e, this]
theorem gI_lt {P : List Value} {i : Int} (hi : i.toNat < P.length) : ∃ v, gI P i = some v := ⟨_, List.getElem?_eq_getElem hi⟩
theorem gI_swap {P : List Value} {i j l : Int} {x y : Value} (hx : gI P i = some x) (hy : gI P j = some y) (hi : 0 ≤ i) (hj : 0 ≤ j) (hl : 0 ≤ l) :
    gI ((P.set i.toNat y).set j.toNat x) l = if l = j then some x else if l = i then some y else gI P l := by
  have h1 := (List.getElem?_eq_some_iff.mp hx).1
  have h2 := (List.getElem?_eq_some_iff.mp hy).1
  rw [gI_set hj hl (by rw [List.length_set]; exact h2), gI_set hi hl h1]
theorem swap_perm {P : List Value} {i j : Int} {x y : Value} (hx : gI P i = some x) (hy : gI P j = some y) : ((P.set i.toNat y).set j.toNat x).Perm P := by
  obtain ⟨h1, h2⟩ := List.getElem?_eq_some_iff.mp hx
  obtain ⟨h3, h4⟩ := List.getElem?_eq_some_iff.mp hy
  subst h2 h4
  exact List.set_set_perm h1 h3

/-- a state by any answers: fewer than o of them left, what was done paid by those used -/
structure Sc (N o j : Nat) (P H : List Value) (σ : Sg) : Prop where
  p : σ.P = P
  h : σ.H = H
  S : ∀ i ∈ σ.S, 0 ≤ i ∧ i ≤ (N : Int) + 1
  o : σ.O.length < o
  n : σ.n + 40 * σ.O.length ≤ 4000 + j
  len : P.length = N + 2

theorem Sc.le {N o j o' j' : Nat} {P H : List Value} {σ : Sg} (h : Sc N o j P H σ) (ho : o ≤ o') (hj : Nat.ble j j' = true) : Sc N o' j' P H σ := { h with o := Nat.lt_of_lt_of_le h.o ho, n := Nat.le_trans h.n (Nat.add_le_add_left (Nat.le_of_ble_eq_true hj) _) }
theorem Sc.lj {N o j j' : Nat} {P H : List Value} {σ : Sg} (h : Sc N o j P H σ) (hj : Nat.ble j j' = true) : Sc N o j' P H σ := h.le (Nat.le_refl _) hj

structure GP (P₀ P : List Value) : Prop where
  perm : P.Perm P₀
  zero : gI P 0 = gI P₀ 0

theorem GP.swap {P₀ P : List Value} {i j : Int} {x y : Value} (g : GP P₀ P) (hx : gI P i = some x) (hy : gI P j = some y) (hi : 1 ≤ i) (hj : 1 ≤ j) : GP P₀ ((P.set i.toNat y).set j.toNat x) := by
  refine ⟨(swap_perm hx hy).trans g.perm, ?_⟩
  rw [gI_swap hx hy (Int.le_of_lt hi) (Int.le_of_lt hj) (Int.le_refl _), if_neg (Int.ne_of_lt hj), if_neg (Int.ne_of_lt hi)]
  exact g.zero

/-- a place that may be read; that may be written -/
def Iy (N : Nat) (i : Int) : Prop := 0 ≤ i ∧ i ≤ (N : Int) + 1
def Iz (N : Nat) (i : Int) : Prop := 1 ≤ i ∧ i ≤ (N : Int) + 1
theorem Iz.y {N : Nat} {i : Int} (h : Iz N i) : Iy N i := ⟨Int.le_of_lt h.1, h.2⟩
theorem Iz.mk' {N : Nat} {lo hi i : Int} (h1 : 1 ≤ lo) (h3 : hi ≤ N) (a : lo ≤ i) (b : i ≤ hi + 1) : Iz N i := ⟨Int.le_trans h1 a, Int.le_trans b (Int.add_le_add_right h3 1)⟩
theorem Iy.up {N : Nat} {lo hi i : Int} (h1 : 1 ≤ lo) (h3 : hi ≤ N) (a : lo ≤ i) (b : ¬ hi < i) : Iy N (i + 1) := (Iz.mk' h1 h3 (Int.le_trans a (Int.le_add_one (Int.le_refl i))) (Int.add_le_add_right (Int.not_lt.mp b) 1)).y
theorem Iy.down {N : Nat} {lo hi i : Int} (h1 : 1 ≤ lo) (h3 : hi ≤ N) (a : i ≤ hi) (b : ¬ i < lo) : Iy N (i - 1) := by unfold Iy; lia
theorem Iz.of {N : Nat} {lo hi i : Int} (h1 : 1 ≤ lo) (h3 : hi ≤ N) (a : lo ≤ i) (b : i ≤ hi) : Iz N i := Iz.mk' h1 h3 a (Int.le_trans b (Int.le_add_one (Int.le_refl hi)))

/-- where the two ways stand ahead of a turn -/
structure Tw (lo hi up dn : Int) : Prop where
  a : 1 ≤ up + 1
  b : up + 1 ≤ hi + 1
  c : lo ≤ dn
  d : dn ≤ hi
theorem Tw.turn {lo hi up dn u d : Int} (w : Tw lo (hi - 1) up dn) (h1 : 1 ≤ lo) (hu : lo ≤ u) (hd : d ≤ dn - 1) (c : ¬ d < u) : Tw lo (hi - 1) u d ∧ u ≤ hi ∧ lo ≤ d ∧ d ≤ hi := by
  obtain ⟨x, y, z, t⟩ := w
  refine ⟨⟨?_, ?_, ?_, ?_⟩, ?_⟩ <;> lia

section
variable {N o j : Nat} {P₀ P H : List Value} {σ : Sg} {E : Sg → Prop}

theorem Sc.lim (h : Sc N o j P H σ) (hj : Nat.ble j 1000 = true) : σ.n < lim :=
  Nat.lt_of_le_of_lt (Nat.le_trans (Nat.le_add_right _ _) (Nat.le_trans h.n (Nat.add_le_add_left (Nat.le_of_ble_eq_true hj) _))) (by decide)
theorem Sc.suc (h : Sc N o j P H σ) : σ.n + 1 + 40 * σ.O.length ≤ 4000 + (j + 1) := by
  rw [Nat.add_right_comm]; exact Nat.succ_le_succ h.n
theorem Sc.seen {i : Int} (h : Sc N o j P H σ) (hi : Iy N i) : ∀ l ∈ σ.S ++ [i], 0 ≤ l ∧ l ≤ (N : Int) + 1 := fun l hl =>
  (List.mem_append.mp hl).elim (h.S l) fun q => List.mem_singleton.mp q ▸ hi
theorem Sc.lt {i : Int} (h : Sc N o j P H σ) (hi : Iy N i) : i.toNat < σ.P.length := by
  have := hi.1
  have := hi.2
  rw [h.p, h.len]; lia

theorem cget {i : Int} {Q : Value → Sg → Prop} (h : Sc N o j P H σ) (hi : Iy N i) (hj : Nat.ble j 1000 = true) (k : ∀ v σ', gI P i = some v → VOk v → Sc N o (j + 1) P H σ' → Q v σ') : tGet i Q E σ :=
  ⟨hi.1, h.lim hj, σ.P[i.toNat]'(h.lt hi), List.getElem?_eq_getElem (h.lt hi), fun hv => k _ _ (h.p ▸ List.getElem?_eq_getElem (h.lt hi)) hv ⟨h.p, h.h, h.seen hi, h.o, h.suc, h.len⟩⟩
theorem cput {i : Int} {v : Value} {Q : Unit → Sg → Prop} (h : Sc N o j P H σ) (hv : VOk v) (hi : Iy N i) (hj : Nat.ble j 1000 = true) (k : ∀ σ', Sc N o (j + 1) (P.set i.toNat v) H σ' → Q () σ') : tPut i v Q E σ :=
  ⟨hi.1, h.lt hi, h.lim hj, hv, k _ ⟨by rw [h.p], h.h, h.seen hi, h.o, h.suc, by rw [List.length_set]; exact h.len⟩⟩
theorem chold {v : Value} {Q : Unit → Sg → Prop} (h : Sc N o j P H σ) (hv : VOk v) (hj : Nat.ble j 1000 = true) (k : ∀ σ', Sc N o (j + 1) P (H ++ [v]) σ' → Q () σ') : tHold v Q E σ :=
  ⟨h.lim hj, hv, k _ ⟨h.p, by rw [h.h], h.S, h.o, h.suc, h.len⟩⟩
theorem cdrop {v : Value} {Q : Unit → Sg → Prop} (h : Sc N o j P (H ++ [v]) σ) (hj : Nat.ble j 1000 = true) (k : ∀ σ', Sc N o (j + 1) P H σ' → Q () σ') : tDrop Q E σ :=
  ⟨by rw [h.h]; simp, h.lim hj, k _ ⟨h.p, by rw [h.h]; exact List.dropLast_concat, h.S, h.o, h.suc, h.len⟩⟩
theorem ccmp {x y : Value} {Q : Bool → Sg → Prop} (h : Sc N o j P H σ) (hE : E σ) (hj : Nat.ble 40 j = true) (k : ∀ a σ', Sc N (o - 1) (j - 40) P H σ' → Q a σ') : tlChance x y Q E σ := by
  show (match σ.O with | [] => E σ | b :: r => Q b { σ with O := r })
  have h1 := h.o
  have h2 := h.n
  have h4 := Nat.le_of_ble_eq_true hj
  cases e : σ.O with
  | nil => exact hE
  | cons a r =>
    rw [e, List.length_cons] at h1 h2
    exact k a _ ⟨h.p, h.h, h.S, by show r.length < _; lia, by show σ.n + 40 * r.length ≤ _; lia, h.len⟩

variable {lo hi : Int} (hE : ∀ {σ : Sg} {o j : Nat} {P H : List Value}, Sc N o j P H σ → GP P₀ P → Nat.ble j 1000 = true → E σ)
include hE

theorem ctwo {Q : Unit → Sg → Prop} (h : Sc N o 100 P H σ) (g : GP P₀ P) (i1 : Iz N lo) (i2 : Iz N hi) (k : ∀ σ' P', Sc N (o - 1) 70 P' H σ' → GP P₀ P' → Q () σ') : tTwo tlChance lo hi Q E σ := by
  refine bnd (cget h i1.y rfl fun v1 σ1 e1 ok1 h => bnd (cget h i2.y rfl fun v2 σ2 e2 ok2 h => bnd (ccmp h (hE h g rfl) rfl fun a σ3 h => ?_)))
  refine tIf (fun _ => bnd (cput h ok2 i1.y rfl fun σ4 h => cput h ok1 i2.y rfl fun σ5 h => k _ _ (h.lj rfl) (g.swap e1 e2 i1.1 i2.1))) (fun _ => pur (k _ _ (h.lj rfl) g))

theorem cmid {mid : Int} {Q : Unit → Sg → Prop} (h : Sc N o 70 P H σ) (g : GP P₀ P) (i1 : Iz N lo) (i2 : Iz N mid) (i3 : Iz N hi) (k : ∀ σ' P', Sc N o 70 P' H σ' → GP P₀ P' → Q () σ') : tMid tlChance lo mid hi Q E σ := by
  refine bnd (cget h i2.y rfl fun v1 σ1 e1 ok1 h => bnd (cget h i1.y rfl fun v2 σ2 e2 ok2 h => bnd (ccmp h (hE h g rfl) rfl fun a σ3 h => ?_)))
  have h := h.le (j' := 40) (Nat.sub_le o 1) rfl
  refine tIf (fun _ => bnd (cput h ok2 i2.y rfl fun σ4 h => cput h ok1 i1.y rfl fun σ5 h => k _ _ (h.lj rfl) (g.swap e1 e2 i2.1 i1.1))) (fun _ => bnd (cget h i3.y rfl fun v3 σ4 e3 ok3 h => bnd (ccmp h (hE h g rfl) rfl fun a σ5 h => ?_)))
  have h := h.le (j' := 40) (Nat.sub_le o 1) rfl
  exact tIf (fun _ => bnd (cput h ok3 i2.y rfl fun σ4 h => cput h ok1 i3.y rfl fun σ5 h => k _ _ (h.lj rfl) (g.swap e1 e3 i2.1 i3.1))) (fun _ => pur (k _ _ (h.lj rfl) g))

theorem cupW {pivot : Value} {l : Int} {Q : Int × Value → Sg → Prop} (g : GP P₀ P) (h3 : hi ≤ N) (h1 : 1 ≤ l) (fuel : Nat) :
    ∀ (o : Nat) (i : Int) (v : Value) (σ : Sg), o ≤ fuel → Sc N o 85 P H σ → l ≤ i → i ≤ hi + 1 → gI P i = some v → VOk v →
      (∀ u x σ', l ≤ u → u ≤ hi + 1 → gI P u = some x → VOk x → Sc N (o - 1) 50 P H σ' → Q (u, x) σ') → tUpW tlChance pivot hi fuel i v Q E σ := by
  induction fuel with
  | zero => exact fun _ _ _ _ ho h => absurd (Nat.lt_of_lt_of_le h.o ho) (Nat.not_lt_zero _)
  | succ fuel ih =>
    intro o i v σ ho h a b ev okv k
    rw [tUpW_eq]
    refine bnd (ccmp h (hE h g rfl) rfl fun _ σ1 h => ?_)
    refine tIf (fun _ => tIf (fun _ => hE h g rfl) fun c => bnd (cget h (Iy.up h1 h3 a c) rfl fun v' σ2 e' ok' h' => ?_)) (fun _ => pur (k _ _ _ a b ev okv (h.lj rfl)))
    exact ih (o - 1) (i + 1) v' σ2 (Nat.sub_le_of_le_add ho) (h'.lj rfl) (Int.le_trans a (Int.le_add_one (Int.le_refl i))) (Int.add_le_add_right (Int.not_lt.mp c) 1) e' ok' fun u x σ' q1 q2 q3 q4 q5 => k u x σ' q1 q2 q3 q4 (q5.le (Nat.sub_le _ 1) rfl)

theorem cup {pivot : Value} {up : Int} {Q : Int × Value → Sg → Prop} (h : Sc N o 80 P H σ) (g : GP P₀ P) (ho : o ≤ 100) (h1 : 1 ≤ up + 1) (h2 : up + 1 ≤ hi + 1) (h3 : hi ≤ N)
    (k : ∀ u x σ', up + 1 ≤ u → u ≤ hi + 1 → gI P u = some x → VOk x → Sc N (o - 1) 50 P H σ' → Q (u, x) σ') : tUp tlChance 100 pivot up hi Q E σ :=
  bnd (cget h (Iz.mk' h1 h3 (Int.le_refl _) h2).y rfl fun v' σ2 e' ok' h => cupW hE g h3 h1 100 o (up + 1) v' σ2 ho (h.lj rfl) (Int.le_refl _) h2 e' ok' k)

theorem cdownW {pivot : Value} {l : Int} {Q : Int × Value → Sg → Prop} (g : GP P₀ P) (h1 : 1 ≤ lo) (h3 : l ≤ N) (fuel : Nat) :
    ∀ (o : Nat) (i : Int) (v : Value) (σ : Sg), o ≤ fuel → Sc N o 85 P H σ → i ≤ l → lo ≤ i + 1 → gI P i = some v → VOk v →
      (∀ u x σ', u ≤ l → lo ≤ u + 1 → gI P u = some x → VOk x → Sc N (o - 1) 50 P H σ' → Q (u, x) σ') → tDownW tlChance pivot lo fuel i v Q E σ := by
  induction fuel with
  | zero => exact fun _ _ _ _ ho h => absurd (Nat.lt_of_lt_of_le h.o ho) (Nat.not_lt_zero _)
  | succ fuel ih =>
    intro o i v σ ho h a b ev okv k
    rw [tDownW_eq]
    refine bnd (ccmp h (hE h g rfl) rfl fun _ σ1 h => ?_)
    refine tIf (fun _ => tIf (fun _ => hE h g rfl) fun c => bnd (cget h (Iy.down h1 h3 a c) rfl fun v' σ2 e' ok' h' => ?_)) (fun _ => pur (k _ _ _ a b ev okv (h.lj rfl)))
    exact ih (o - 1) (i - 1) v' σ2 (Nat.sub_le_of_le_add ho) (h'.lj rfl) (Int.le_trans (Int.sub_le_self i (by decide)) a) (by rw [Int.sub_add_cancel]; exact Int.not_lt.mp c) e' ok' fun u x σ' q1 q2 q3 q4 q5 => k u x σ' q1 q2 q3 q4 (q5.le (Nat.sub_le _ 1) rfl)

theorem cdown {pivot : Value} {dn : Int} {Q : Int × Value → Sg → Prop} (h : Sc N o 80 P H σ) (g : GP P₀ P) (ho : o ≤ 100) (h1 : 1 ≤ lo) (h2 : lo ≤ dn) (h3 : dn ≤ N)
    (k : ∀ u x σ', u ≤ dn - 1 → lo ≤ u + 1 → gI P u = some x → VOk x → Sc N (o - 1) 50 P H σ' → Q (u, x) σ') : tDown tlChance 100 pivot dn lo Q E σ :=
  bnd (cget h (Iy.down h1 h3 (Int.le_refl _) (Int.not_lt.mpr h2)) rfl fun v' σ2 e' ok' h => cdownW hE g h1 (Int.le_trans (Int.sub_le_self dn (by decide)) h3) 100 o (dn - 1) v' σ2 ho (h.lj rfl) (Int.le_refl _) (by rw [Int.sub_add_cancel]; exact h2) e' ok' k)

theorem cpartW {pivot : Value} {Q : Int → Sg → Prop} (h1 : 1 ≤ lo) (h3 : hi ≤ N) (k : ∀ u σ' P', lo ≤ u → u ≤ hi + 1 → Sc N o 60 P' H σ' → GP P₀ P' → Q u σ') (fuel : Nat) :
    ∀ (o' : Nat) (up dn : Int) (P : List Value) (σ : Sg), o' ≤ o → o' ≤ fuel → o' ≤ 100 → Sc N o' 80 P H σ → GP P₀ P → lo ≤ up + 1 → Tw lo (hi - 1) up dn → tPartW tlChance 100 pivot lo hi fuel up dn Q E σ := by
  induction fuel with
  | zero => exact fun _ _ _ _ _ _ ho _ h => absurd (Nat.lt_of_lt_of_le h.o ho) (Nat.not_lt_zero _)
  | succ fuel ih =>
    intro o' up dn P σ oo of' oh h g u1 w
    rw [tPartW_eq]
    have wb := Int.le_trans w.b (by rw [Int.sub_add_cancel]; exact Int.le_add_one (Int.le_refl hi))
    have wd := Int.le_trans (Int.le_trans w.d (Int.sub_le_self hi (by decide))) h3
    refine bnd (cup hE h g oh w.a wb h3 fun u x σ1 q1 q2 q3 q4 h => ?_)
    have q0 := Int.le_trans u1 q1
    refine bnd (chold h q4 rfl fun σ2 h => bnd (cdown hE (h.le (Nat.sub_le o' 1) rfl) g oh h1 w.c wd fun d y σ3 r1 r2 r3 r4 h => bnd (cdrop h rfl fun σ4 h => ?_)))
    have ol := Nat.le_trans (Nat.sub_le o' 1) oo
    refine tIf (fun _ => pur (k _ _ _ q0 q2 (h.le ol rfl) g)) fun hc => ?_
    obtain ⟨w', a1, a2, a3⟩ := w.turn h1 q0 r1 hc
    have iu := Iz.of h1 h3 q0 a1
    have id := Iz.of h1 h3 a2 a3
    refine bnd (cput h r4 iu.y rfl fun σ5 h => bnd (cput h q4 id.y rfl fun σ6 h => ?_))
    exact ih (o' - 1) u d _ σ6 ol (Nat.sub_le_of_le_add of') (Nat.le_trans (Nat.sub_le o' 1) oh) (h.lj rfl) (g.swap q3 r3 iu.1 id.1) (Int.le_add_one q0) w'

theorem cpart {Q : Int → Sg → Prop} (h : Sc N o 70 P H σ) (g : GP P₀ P) (ho : o ≤ 100) (h1 : 1 ≤ lo) (h2 : lo + 3 ≤ hi) (h3 : hi ≤ N)
    (k : ∀ u σ' P', lo ≤ u → u ≤ hi + 1 → Sc N o 70 P' H σ' → GP P₀ P' → Q u σ') : tPart tlChance 100 lo hi Q E σ := by
  have im : Iz N ((lo + hi) / 2) := Iz.of h1 h3 (by lia) (by lia)
  have ih : Iz N (hi - 1) := Iz.of h1 h3 (by lia) (Int.sub_le_self hi (by decide))
  refine bnd (cget h im.y rfl fun v1 σ1 e1 ok1 h => bnd (cget h ih.y rfl fun v2 σ2 e2 ok2 h => bnd (cput h ok2 im.y rfl fun σ5 h => bnd (cput h ok1 ih.y rfl fun σ6 h => ?_))))
  refine bnd (cpartW hE h1 h3 (fun u σ' P' q1 q2 h g => ?_) 100 o lo (hi - 1) _ _ (Nat.le_refl o) ho ho (h.lj rfl) (g.swap e1 e2 im.1 ih.1) (Int.le_add_one (Int.le_refl lo)) ⟨Int.le_add_one h1, by lia, by lia, Int.le_refl _⟩)
  have iu := Iz.mk' h1 h3 q1 q2
  refine bnd (cget h ih.y rfl fun v1 σ1 e1 ok1 h => bnd (cget h iu.y rfl fun v2 σ2 e2 ok2 h => bnd (cput h ok2 ih.y rfl fun σ5 h => bnd (cput h ok1 iu.y rfl fun σ6 h => ?_))))
  exact pur (k _ _ _ q1 q2 (h.lj rfl) (g.swap e1 e2 ih.1 iu.1))

theorem csort (f : Nat) : ∀ (o : Nat) (lo hi : Int) (P : List Value) (σ : Sg) (Q : Unit → Sg → Prop), o ≤ f → o ≤ 100 → Sc N o 100 P H σ → GP P₀ P → 1 ≤ lo → hi ≤ N →
    (∀ σ' P', Sc N o 100 P' H σ' → GP P₀ P' → Q () σ') → tSort tlChance 100 f lo hi Q E σ := by
  induction f with
  | zero => exact fun _ _ _ _ _ _ ho _ h => absurd (Nat.lt_of_lt_of_le h.o ho) (Nat.not_lt_zero _)
  | succ f ih =>
    intro o lo hi P σ Q hf ho h g h1 h3 k
    rw [tSort_eq]
    have hm := Nat.sub_le o 1
    have hf' : o - 1 ≤ f := Nat.sub_le_of_le_add hf
    have ho' := Nat.le_trans hm ho
    refine tIf (fun h2 => ?_) (fun _ => pur (k _ _ h g))
    have h2 := Int.le_of_lt h2
    have i1 := Iz.of h1 h3 (Int.le_refl _) h2
    have i3 := Iz.of h1 h3 h2 (Int.le_refl _)
    refine bnd (ctwo hE h g i1 i3 fun σ1 P1 h g => ?_)
    refine tIf (fun _ => pur (k _ _ (h.le hm rfl) g)) fun c1 => ?_
    refine bnd (cmid hE h g i1 (Iz.of h1 h3 (by lia) (by lia)) i3 fun σ2 P2 h g => ?_)
    refine tIf (fun _ => pur (k _ _ (h.le hm rfl) g)) fun c2 => ?_
    refine bnd (cpart hE h g ho' h1 (by lia) h3 fun u σ3 P3 s1 s2 h g => ?_)
    have a1 := Int.le_add_one (Int.le_trans h1 s1)
    have a2 := Int.le_trans (Int.sub_right_le_of_le_add s2) h3
    refine tIf (fun _ => bnd ?_) fun _ => bnd ?_
    · exact ih (o - 1) lo (u - 1) _ _ _ hf' ho' (h.lj rfl) g h1 a2 fun σ4 P4 h g => ih (o - 1) (u + 1) hi _ _ _ hf' ho' h g a1 h3 fun σ5 P5 h g => k _ _ (h.le hm rfl) g
    · exact ih (o - 1) (u + 1) hi _ _ _ hf' ho' (h.lj rfl) g a1 h3 fun σ4 P4 h g => ih (o - 1) lo (u - 1) _ _ _ hf' ho' h g h1 a2 fun σ5 P5 h g => k _ _ (h.le hm rfl) g
end
end Mine
end

section
open PySem PySem.W PySem.Calls PyProof.Rows PySem.Spec PySem.SeqAt PyProof.V
set_option Elab.async false
set_option maxRecDepth 100000
namespace Mine

def IsI (v : Value) : Prop := ∃ a t, v = .int a t
theorem IsI.ok {v : Value} (x : IsI v) : VOk v := .inl x
/-- what a value counts as by an order's key -/
def kv (key : Int → Int) : Value → Int
  | .int a _ => key a
  | _ => 0

/-- from P to P' only the places lo .. hi were shuffled -/
structure SG (lo hi : Int) (P P' : List Value) : Prop where
  perm : P'.Perm P
  off : ∀ i, 0 ≤ i → (i < lo ∨ hi < i) → gI P' i = gI P i
  inn : ∀ p : Value → Prop, (∀ i v, lo ≤ i → i ≤ hi → gI P i = some v → p v) → ∀ i v, lo ≤ i → i ≤ hi → gI P' i = some v → p v

theorem SG.refl {lo hi : Int} {P : List Value} : SG lo hi P P := ⟨.refl _, fun _ _ _ => rfl, fun _ h => h⟩
theorem SG.trans {lo hi : Int} {P P' P'' : List Value} (x : SG lo hi P P') (y : SG lo hi P' P'') : SG lo hi P P'' :=
  ⟨y.perm.trans x.perm, fun i h0 h => (y.off i h0 h).trans (x.off i h0 h), fun p h => y.inn p (x.inn p h)⟩
theorem SG.wide {lo hi lo' hi' : Int} {P P' : List Value} (x : SG lo hi P P') (h0 : 0 ≤ lo') (h1 : lo' ≤ lo) (h2 : hi ≤ hi') : SG lo' hi' P P' := by
  refine ⟨x.perm, fun i h0 h => x.off i h0 (h.imp (fun a => Int.lt_of_lt_of_le a h1) (fun a => Int.lt_of_le_of_lt h2 a)), fun p h i v a b e => ?_⟩
  by_cases c : lo ≤ i ∧ i ≤ hi
  · exact x.inn p (fun j w a b e => h j w (Int.le_trans h1 a) (Int.le_trans b h2) e) i v c.1 c.2 e
  · rw [x.off i (Int.le_trans h0 a) (by lia)] at e
    exact h i v a b e
theorem SG.swap {lo hi : Int} {P : List Value} {i j : Int} {x y : Value} (hx : gI P i = some x) (hy : gI P j = some y) (h0 : 0 ≤ lo) (i1 : lo ≤ i) (i2 : i ≤ hi) (j1 : lo ≤ j) (j2 : j ≤ hi) : SG lo hi P ((P.set i.toNat y).set j.toNat x) := by
  have i0 := Int.le_trans h0 i1
  have j0 := Int.le_trans h0 j1
  refine ⟨swap_perm hx hy, fun l l0 h => ?_, fun p h l v a b e => ?_⟩
  · rw [gI_swap hx hy i0 j0 l0, if_neg (by lia), if_neg (by lia)]
  · rw [gI_swap hx hy i0 j0 (Int.le_trans h0 a)] at e
    split at e
    · cases e; exact h i _ i1 i2 hx
    · split at e
      · cases e; exact h j _ j1 j2 hy
      · exact h l v a b e

/-- a swap's places -/
theorem sw_j {P : List Value} {i j : Int} {x y : Value} (hx : gI P i = some x) (hy : gI P j = some y) (hi : 1 ≤ i) (hj : 1 ≤ j) : gI ((P.set i.toNat y).set j.toNat x) j = some x := by
  rw [gI_swap hx hy (Int.le_of_lt hi) (Int.le_of_lt hj) (Int.le_of_lt hj), if_pos rfl]
theorem sw_i {P : List Value} {i j : Int} {x y : Value} (hx : gI P i = some x) (hy : gI P j = some y) (hi : 1 ≤ i) (hj : 1 ≤ j) (n : i ≠ j) : gI ((P.set i.toNat y).set j.toNat x) i = some y := by
  rw [gI_swap hx hy (Int.le_of_lt hi) (Int.le_of_lt hj) (Int.le_of_lt hi), if_neg n, if_pos rfl]
theorem sw_o {P : List Value} {i j l : Int} {x y : Value} (hx : gI P i = some x) (hy : gI P j = some y) (hi : 1 ≤ i) (hj : 1 ≤ j) (hl : 1 ≤ l) (n : l ≠ i) (m : l ≠ j) : gI ((P.set i.toNat y).set j.toNat x) l = gI P l := by
  rw [gI_swap hx hy (Int.le_of_lt hi) (Int.le_of_lt hj) (Int.le_of_lt hl), if_neg m, if_neg n]

/-- a place of the piece -/
def Ix (N : Nat) (i : Int) : Prop := 1 ≤ i ∧ i ≤ (N : Int)
theorem Ix.of {N : Nat} {lo hi i : Int} (h1 : 1 ≤ lo) (h3 : hi ≤ N) (a : lo ≤ i) (b : i ≤ hi) : Ix N i := ⟨Int.le_trans h1 a, Int.le_trans b h3⟩
/-- the places 1 .. N hold ints -/
def IR (N : Nat) (P : List Value) : Prop := ∀ i v, 1 ≤ i → i ≤ (N : Int) → gI P i = some v → IsI v
theorem IR.sg {N : Nat} {lo hi : Int} {P P' : List Value} (r : IR N P) (x : SG lo hi P P') (h1 : 1 ≤ lo) (h2 : hi ≤ N) : IR N P' :=
  (x.wide (lo' := 1) (hi' := N) (by decide) h1 h2).inn IsI r

/-- what was held grew -/
def KE (K K' : List Value) : Prop := ∃ ks, K' = K ++ ks ∧ ∀ v ∈ ks, VOk v
theorem KE.refl {K : List Value} : KE K K := ⟨[], (List.append_nil _).symm, fun _ h => nomatch h⟩
theorem KE.trans {K K' K'' : List Value} (x : KE K K') (y : KE K' K'') : KE K K'' := by
  obtain ⟨a, rfl, ha⟩ := x
  obtain ⟨b, rfl, hb⟩ := y
  exact ⟨a ++ b, List.append_assoc _ _ _, fun v h => (List.mem_append.mp h).elim (ha v) (hb v)⟩
theorem KE.one {K : List Value} {v : Value} (h : VOk v) : KE K (K ++ [v]) := ⟨[v], rfl, fun u hu => by rw [List.mem_singleton.mp hu]; exact h⟩
theorem KE.ne {K K' : List Value} (x : KE K K') (h : K ≠ []) : K' ≠ [] := by
  obtain ⟨a, rfl, _⟩ := x
  simp [h]

def LeA (key : Int → Int) (P : List Value) (i j : Int) : Prop := ∀ x y, gI P i = some x → gI P j = some y → kv key x ≤ kv key y
def Srt (key : Int → Int) (P : List Value) (lo hi : Int) : Prop := ∀ i j, lo ≤ i → i ≤ j → j ≤ hi → LeA key P i j
theorem LeA.refl {key : Int → Int} {P : List Value} {i : Int} : LeA key P i i := fun x y h1 h2 => by rw [h1] at h2; cases h2; exact Int.le_refl _
theorem LeA.of {key : Int → Int} {P : List Value} {i j : Int} {x y : Value} (hx : gI P i = some x) (hy : gI P j = some y) (h : kv key x ≤ kv key y) : LeA key P i j := fun a b ha hb => by
  rw [hx] at ha; rw [hy] at hb; cases ha; cases hb; exact h
/-- lo .. hi: below a key; above -/
def Lo (key : Int → Int) (P : List Value) (lo hi p : Int) : Prop := ∀ t y, lo ≤ t → t ≤ hi → gI P t = some y → kv key y ≤ p
def Hi (key : Int → Int) (P : List Value) (lo hi p : Int) : Prop := ∀ t y, lo ≤ t → t ≤ hi → gI P t = some y → p ≤ kv key y

/-- a state by a real order -/
structure Sr (N c j : Nat) (P H K : List Value) (σ : Sg) : Prop where
  p : σ.P = P
  h : σ.H = H
  k : σ.K = K
  S : ∀ i ∈ σ.S, Ix N i
  n : σ.n ≤ c + j
  c : c ≤ 100000
  len : P.length = N + 2
theorem Sr.lj {N c j j' : Nat} {P H K : List Value} {σ : Sg} (h : Sr N c j P H K σ) (hj : Nat.ble j j' = true) : Sr N c j' P H K σ := { h with n := Nat.le_trans h.n (Nat.add_le_add_left (Nat.le_of_ble_eq_true hj) _) }
theorem Sr.roll {N c j c' : Nat} {P H K : List Value} {σ : Sg} (h : Sr N c j P H K σ) (r : c + j ≤ c') (hc : c' ≤ 100000) : Sr N c' 0 P H K σ := { h with n := Nat.le_trans h.n r, c := hc }

section
variable {N c j : Nat} {P H K : List Value} {σ : Sg} {E : Sg → Prop}

theorem Sr.lim (h : Sr N c j P H K σ) (hj : j ≤ 100000) : σ.n < lim :=
  Nat.lt_of_le_of_lt (Nat.le_trans h.n (Nat.add_le_add h.c hj)) (by decide)
theorem Sr.seen {i : Int} (h : Sr N c j P H K σ) (hi : Ix N i) : ∀ l ∈ σ.S ++ [i], Ix N l := fun l hl =>
  (List.mem_append.mp hl).elim (h.S l) fun q => List.mem_singleton.mp q ▸ hi
theorem Sr.lt {i : Int} (h : Sr N c j P H K σ) (hi : Ix N i) : i.toNat < σ.P.length := by
  have := hi.1
  have := hi.2
  rw [h.p, h.len]; lia
theorem Sr.lt' {i : Int} (h : Sr N c j P H K σ) (hi : Ix N i) : ∃ v, gI P i = some v := gI_lt (h.p ▸ h.lt hi)

theorem rgetJ {i : Int} {Q : Value → Sg → Prop} (h : Sr N c j P H K σ) (r : IR N P) (hi : Ix N i) (hj : j ≤ 100000) (k : ∀ v σ', gI P i = some v → IsI v → Sr N c (j + 1) P H K σ' → Q v σ') : tGet i Q E σ :=
  have hg : gI P i = some (σ.P[i.toNat]'(h.lt hi)) := h.p ▸ List.getElem?_eq_getElem (h.lt hi)
  ⟨Int.le_of_lt hi.1, h.lim hj, σ.P[i.toNat]'(h.lt hi), List.getElem?_eq_getElem (h.lt hi), fun _ => k _ _ hg (r i _ hi.1 hi.2 hg) ⟨h.p, h.h, h.k, h.seen hi, Nat.succ_le_succ h.n, h.c, h.len⟩⟩
theorem lit {j : Nat} (hj : Nat.ble j 100000 = true) : j ≤ 100000 := Nat.le_of_ble_eq_true hj
theorem rget' {i : Int} {Q : Value → Sg → Prop} (h : Sr N c j P H K σ) (r : IR N P) (hi : Ix N i) (hj : Nat.ble j 100000 = true) (k : ∀ v σ', gI P i = some v → IsI v → Sr N c (j + 1) P H K σ' → Q v σ') : tGet i Q E σ := rgetJ h r hi (lit hj) k
theorem rput' {i : Int} {v : Value} {Q : Unit → Sg → Prop} (h : Sr N c j P H K σ) (hv : IsI v) (hi : Ix N i) (hj : Nat.ble j 100000 = true) (k : ∀ σ', Sr N c (j + 1) (P.set i.toNat v) H K σ' → Q () σ') : tPut i v Q E σ :=
  ⟨Int.le_of_lt hi.1, h.lt hi, h.lim (lit hj), hv.ok, k _ ⟨by rw [h.p], h.h, h.k, h.seen hi, Nat.succ_le_succ h.n, h.c, by rw [List.length_set]; exact h.len⟩⟩
theorem rhold' {v : Value} {Q : Unit → Sg → Prop} (h : Sr N c j P H K σ) (hv : IsI v) (hj : Nat.ble j 100000 = true) (k : ∀ σ', Sr N c (j + 1) P (H ++ [v]) (K ++ [v]) σ' → Q () σ') : tHold v Q E σ :=
  ⟨h.lim (lit hj), hv.ok, k _ ⟨h.p, by rw [h.h], by rw [h.k], h.S, Nat.succ_le_succ h.n, h.c, h.len⟩⟩
theorem rdrop' {v : Value} {Q : Unit → Sg → Prop} (h : Sr N c j P (H ++ [v]) K σ) (hj : Nat.ble j 100000 = true) (k : ∀ σ', Sr N c (j + 1) P H K σ' → Q () σ') : tDrop Q E σ :=
  ⟨by rw [h.h]; simp, h.lim (lit hj), k _ ⟨h.p, by rw [h.h]; exact List.dropLast_concat, h.k, h.S, Nat.succ_le_succ h.n, h.c, h.len⟩⟩

theorem fuel_up {i j : Int} {f : Nat} (h : j < i + ((f + 1 : Nat) : Int)) : j < i + 1 + (f : Int) := by lia
theorem fuel_dn {i j : Int} {f : Nat} (h : i < j + ((f + 1 : Nat) : Int)) : i - 1 < j + (f : Int) := by lia
theorem fuel25 {N : Nat} {a b : Int} (hN : N ≤ 24) (ha : 1 ≤ a) (hb : b ≤ N) : b < a + ((25 : Nat) : Int) := by lia
/-- where the two ways stand ahead of a turn -/
structure Tr2 (lo hi up dn : Int) (f : Nat) : Prop where
  a : lo ≤ up
  b : up < hi
  c : up ≤ dn
  d : lo < dn
  e : dn ≤ hi
  f : dn < up + f
theorem Tr2.up {lo hi up dn : Int} {f : Nat} (w : Tr2 lo hi up dn f) : ∃ j, up + 1 ≤ j ∧ j ≤ hi ∧ dn ≤ j := by
  obtain ⟨a, b, c, d, e, f⟩ := w
  rcases Int.lt_or_le up dn with q | q
  · exact ⟨dn, q, e, Int.le_refl _⟩
  · exact ⟨up + 1, Int.le_refl _, b, Int.le_add_one q⟩
theorem Tr2.down {lo hi up dn : Int} {f : Nat} (w : Tr2 lo hi up dn f) : ∃ j, j ≤ dn - 1 ∧ lo ≤ j ∧ j ≤ up := by
  obtain ⟨a, b, c, d, e, f⟩ := w
  rcases Int.lt_or_le up dn with q | q
  · exact ⟨up, Int.le_sub_one_of_lt q, a, Int.le_refl _⟩
  · exact ⟨dn - 1, Int.le_refl _, Int.le_sub_one_of_lt d, Int.le_trans (Int.sub_le_self dn (by decide)) q⟩
theorem Tr2.turn {lo hi up dn u d : Int} {f : Nat} (w : Tr2 lo hi up dn (f + 1)) (hu : up + 1 ≤ u) (hd : d ≤ dn - 1) (c : ¬ d < u) : Tr2 lo hi u d f := by
  obtain ⟨x, y, z, t, q, r⟩ := w
  refine ⟨?_, ?_, ?_, ?_, ?_, ?_⟩ <;> lia

variable {tl : Value → Value → Tr Bool} {key : Int → Int} {lo hi : Int} (hT : ∀ (x y : Value) (Q : Bool → Sg → Prop) (E : Sg → Prop) (σ : Sg), IsI x → IsI y → Q (decide (kv key x < kv key y)) σ → tl x y Q E σ)
include hT

theorem rtwo {Q : Unit → Sg → Prop} (h : Sr N c 0 P H K σ) (r : IR N P) (i1 : Ix N lo) (i2 : Ix N hi) (h2 : lo < hi) (k : ∀ σ' P', SG lo hi P P' → LeA key P' lo hi → IR N P' → Sr N c 4 P' H K σ' → Q () σ') : tTwo tl lo hi Q E σ := by
  refine bnd (rget' h r i1 rfl fun v1 σ1 e1 n1 h => bnd (rget' h r i2 rfl fun v2 σ2 e2 n2 h => bnd (hT _ _ _ _ _ n2 n1 ?_)))
  refine tIf (fun hc => bnd (rput' h n2 i1 rfl fun σ4 h => rput' h n1 i2 rfl fun σ5 h => ?_)) (fun hc => pur (k _ _ SG.refl (LeA.of e1 e2 (Int.not_lt.mp fun q => hc (decide_eq_true q))) r (h.lj rfl)))
  have sg := SG.swap (lo := lo) (hi := hi) e1 e2 (Int.le_of_lt i1.1) (Int.le_refl _) (Int.le_of_lt h2) (Int.le_of_lt h2) (Int.le_refl _)
  exact k _ _ sg (LeA.of (sw_i e1 e2 i1.1 i2.1 (Int.ne_of_lt h2)) (sw_j e1 e2 i1.1 i2.1) (Int.le_of_lt (of_decide_eq_true hc))) (r.sg sg i1.1 i2.2) h

theorem rmid {mid : Int} {Q : Unit → Sg → Prop} (h : Sr N c 4 P H K σ) (r : IR N P) (l : LeA key P lo hi) (i1 : Ix N lo) (i3 : Ix N hi) (h2 : lo < mid) (h3 : mid < hi) (k : ∀ σ' P', SG lo hi P P' → LeA key P' lo mid → LeA key P' mid hi → IR N P' → Sr N c 9 P' H K σ' → Q () σ') : tMid tl lo mid hi Q E σ := by
  have l2 := Int.le_of_lt h2
  have l3 := Int.le_of_lt h3
  have lh := Int.le_trans l2 l3
  have i2 : Ix N mid := Ix.of i1.1 i3.2 l2 l3
  have n12 := Int.ne_of_lt h2
  have n23 := Int.ne_of_lt h3
  have n13 := Int.ne_of_lt (Int.lt_trans h2 h3)
  obtain ⟨v3, e3⟩ := h.lt' i3
  refine bnd (rget' h r i2 rfl fun v1 σ1 e1 n1 h => bnd (rget' h r i1 rfl fun v2 σ2 e2 n2 h => bnd (hT _ _ _ _ _ n1 n2 ?_)))
  have l := l _ _ e2 e3
  refine tIf (fun hc => bnd (rput' h n2 i2 rfl fun σ4 h => rput' h n1 i1 rfl fun σ5 h => ?_)) (fun hc => bnd (rget' h r i3 rfl fun v3' σ4 e3' n3 h => bnd (hT _ _ _ _ _ n3 n1 ?_)))
  · have sg := SG.swap (lo := lo) (hi := hi) e1 e2 (Int.le_of_lt i1.1) l2 l3 (Int.le_refl _) lh
    have sm := sw_i e1 e2 i2.1 i1.1 n12.symm
    exact k _ _ sg (LeA.of (sw_j e1 e2 i2.1 i1.1) sm (Int.le_of_lt (of_decide_eq_true hc))) (LeA.of sm ((sw_o e1 e2 i2.1 i1.1 i3.1 n23.symm n13.symm).trans e3) l) (r.sg sg i1.1 i3.2) (h.lj rfl)
  have hc := Int.not_lt.mp fun q => hc (decide_eq_true q)
  rw [e3] at e3'; cases e3'
  refine tIf (fun hc2 => bnd (rput' h n3 i2 rfl fun σ4 h => rput' h n1 i3 rfl fun σ5 h => ?_)) (fun hc2 => pur (k _ _ SG.refl (LeA.of e2 e1 hc) (LeA.of e1 e3 (Int.not_lt.mp fun q => hc2 (decide_eq_true q))) r (h.lj rfl)))
  have sg := SG.swap (lo := lo) (hi := hi) e1 e3 (Int.le_of_lt i1.1) l2 l3 lh (Int.le_refl _)
  have sm := sw_i e1 e3 i2.1 i3.1 n23
  exact k _ _ sg (LeA.of ((sw_o e1 e3 i2.1 i3.1 i1.1 n12 n13).trans e2) sm l) (LeA.of sm (sw_j e1 e3 i2.1 i3.1) (Int.le_of_lt (of_decide_eq_true hc2))) (r.sg sg i1.1 i3.2) h

theorem rupW {pivot : Value} {Q : Int × Value → Sg → Prop} (r : IR N P) (ip : IsI pivot) {l b : Int} (h1 : 1 ≤ l) (hb : b ≤ hi) (hN : b ≤ N) (bj : ∀ y, gI P b = some y → kv key pivot ≤ kv key y) (fuel : Nat) : ∀ (j : Nat) (i : Int) (v : Value) (σ : Sg), j + fuel ≤ 100000 → b < i + fuel → Sr N c j P H K σ → l ≤ i → i ≤ b → gI P i = some v → IsI v → (∀ t y, l ≤ t → t < i → gI P t = some y → kv key y < kv key pivot) →
    (∀ u x σ', l ≤ u → u ≤ b → gI P u = some x → IsI x → kv key pivot ≤ kv key x → (∀ t y, l ≤ t → t < u → gI P t = some y → kv key y < kv key pivot) → Sr N c (j + fuel) P H K σ' → Q (u, x) σ') → tUpW tl pivot hi fuel i v Q E σ := by
  induction fuel with
  | zero => exact fun _ i _ _ _ hf _ _ h2 => absurd (Int.add_zero i ▸ hf) (Int.not_lt.mpr h2)
  | succ fuel ih =>
    intro j i v σ hj hf h hl h2 ev iv bel k
    rw [tUpW_eq]
    refine bnd (hT _ _ _ _ _ iv ip (tIf (fun hc => tIf (fun c => absurd c (Int.not_lt.mpr (Int.le_trans h2 hb))) fun _ => ?_) (fun hc => pur (k _ _ _ hl h2 ev iv (Int.not_lt.mp fun q => hc (decide_eq_true q)) bel { h with n := Nat.le_trans h.n (Nat.add_le_add_left (Nat.le_add_right j _) c) }))))
    have hc := of_decide_eq_true hc
    have hne : i ≠ b := fun q => Int.not_lt.mpr (bj _ (q ▸ ev)) hc
    have h2' : i + 1 ≤ b := Int.lt_iff_le_and_ne.mpr ⟨h2, hne⟩
    have hl' : l ≤ i + 1 := Int.le_add_one hl
    refine bnd (rgetJ h r (Ix.of h1 hN hl' h2') (Nat.le_trans (Nat.le_add_right j _) hj) fun v' σ2 e' i' h => ?_)
    refine ih (j + 1) (i + 1) v' σ2 (Nat.le_trans (Nat.le_of_eq (Nat.add_right_comm j 1 fuel)) hj) (fuel_up hf) h hl' h2' e' i' (fun t y t1 t2 et => ?_) fun u x σ' q1 q2 q3 q4 q5 q6 q7 => k u x σ' q1 q2 q3 q4 q5 q6 (Nat.add_right_comm j 1 fuel ▸ q7)
    rcases Int.lt_or_eq_of_le (Int.le_of_lt_add_one t2) with q | q
    · exact bel t y t1 q et
    · rw [q, ev] at et; cases et; exact hc

theorem rdownW {pivot : Value} {Q : Int × Value → Sg → Prop} (r : IR N P) (ip : IsI pivot) {l b : Int} (h1 : 1 ≤ lo) (hb : lo ≤ b) (hN : l ≤ N) (bj : ∀ y, gI P b = some y → kv key y ≤ kv key pivot) (fuel : Nat) : ∀ (j : Nat) (i : Int) (v : Value) (σ : Sg), j + fuel ≤ 100000 → i < b + fuel → Sr N c j P H K σ → i ≤ l → b ≤ i → gI P i = some v → IsI v → (∀ t y, t ≤ l → i < t → gI P t = some y → kv key pivot < kv key y) →
    (∀ u x σ', u ≤ l → b ≤ u → gI P u = some x → IsI x → kv key x ≤ kv key pivot → (∀ t y, t ≤ l → u < t → gI P t = some y → kv key pivot < kv key y) → Sr N c (j + fuel) P H K σ' → Q (u, x) σ') → tDownW tl pivot lo fuel i v Q E σ := by
  induction fuel with
  | zero => exact fun _ i _ _ _ hf _ _ h2 => absurd (Int.add_zero b ▸ hf) (Int.not_lt.mpr h2)
  | succ fuel ih =>
    intro j i v σ hj hf h hl h2 ev iv bel k
    rw [tDownW_eq]
    refine bnd (hT _ _ _ _ _ ip iv (tIf (fun hc => tIf (fun c => absurd c (Int.not_lt.mpr (Int.le_trans hb h2))) fun _ => ?_) (fun hc => pur (k _ _ _ hl h2 ev iv (Int.not_lt.mp fun q => hc (decide_eq_true q)) bel { h with n := Nat.le_trans h.n (Nat.add_le_add_left (Nat.le_add_right j _) c) }))))
    have hc := of_decide_eq_true hc
    have hne : b ≠ i := fun q => Int.not_lt.mpr (bj _ (q ▸ ev)) hc
    have h2' : b ≤ i - 1 := Int.le_sub_one_of_lt (Int.lt_iff_le_and_ne.mpr ⟨h2, hne⟩)
    have hl' : i - 1 ≤ l := Int.le_trans (Int.sub_le_self i (by decide)) hl
    refine bnd (rgetJ h r (Ix.of h1 hN (Int.le_trans hb h2') hl') (Nat.le_trans (Nat.le_add_right j _) hj) fun v' σ2 e' i' h => ?_)
    refine ih (j + 1) (i - 1) v' σ2 (Nat.le_trans (Nat.le_of_eq (Nat.add_right_comm j 1 fuel)) hj) (fuel_dn hf) h hl' h2' e' i' (fun t y t1 t2 et => ?_) fun u x σ' q1 q2 q3 q4 q5 q6 q7 => k u x σ' q1 q2 q3 q4 q5 q6 (Nat.add_right_comm j 1 fuel ▸ q7)
    rcases Int.lt_or_eq_of_le (Int.le_of_sub_one_lt t2) with q | q
    · exact bel t y t1 q et
    · rw [← q, ev] at et; cases et; exact hc
theorem rpartW {pivot : Value} {Q : Int → Sg → Prop} {top : Int} (ip : IsI pivot) (h1 : 1 ≤ lo) (ht : top ≤ hi) (h3 : top ≤ N) (hN : N ≤ 24) (cE : Nat) (hE : cE ≤ 100000)
    (k : ∀ u σ' P' K', lo + 1 ≤ u → u ≤ top → SG lo top P P' → IR N P' → gI P' top = some pivot → Lo key P' lo (u - 1) (kv key pivot) → Hi key P' u top (kv key pivot) → KE K K' → K' ≠ [] → Sr N cE 0 P' H K' σ' → Q u σ') (fuel : Nat) :
    ∀ (up dn : Int) (P1 K1 : List Value) (c : Nat) (σ : Sg), Tr2 lo top up dn fuel → Sr N c 0 P1 H K1 σ → c + 60 * fuel ≤ cE → IR N P1 → SG lo top P P1 → KE K K1 → gI P1 top = some pivot → Lo key P1 lo up (kv key pivot) → Hi key P1 dn top (kv key pivot) → tPartW tl 25 pivot lo hi fuel up dn Q E σ := by
  induction fuel with
  | zero => exact fun up _ _ _ _ _ w => absurd (Int.add_zero up ▸ w.f) (Int.not_lt.mpr w.c)
  | succ fuel ih =>
    intro up dn P1 K1 c σ w h hc r sg0 ke ep LO HI
    rw [tPartW_eq]
    obtain ⟨b, b1, b2, b3⟩ := w.up
    obtain ⟨l, l1, l2, l3⟩ := w.down
    have a1 : 1 ≤ up + 1 := Int.le_add_one (Int.le_trans h1 w.a)
    have bN := Int.le_trans b2 h3
    have ia : Ix N (up + 1) := ⟨a1, Int.le_trans b1 bN⟩
    have id : Ix N (dn - 1) := Ix.of h1 h3 (Int.le_trans l2 l1) (Int.le_trans (Int.sub_le_self dn (by decide)) w.e)
    have fb : b < up + 1 + ((25 : Nat) : Int) := fuel25 hN a1 bN
    have fl : dn - 1 < l + ((25 : Nat) : Int) := fuel25 hN (Int.le_trans h1 l2) id.2
    refine bnd (bnd (rget' h r ia rfl fun v1 σ1 e1 n1 h => ?_))
    refine rupW hT r ip a1 (Int.le_trans b2 ht) bN (fun y e => HI b y b3 b2 e) 25 1 (up + 1) v1 σ1 (by decide) fb h (Int.le_refl _) b1 e1 n1 (fun t y t1 t2 => absurd t2 (Int.not_lt.mpr t1)) fun u x σ2 q1 q2 q3 q4 q5 q6 h => ?_
    refine bnd (rhold' h q4 rfl fun σ3 h => bnd (bnd (rget' h r id rfl fun v2 σ4 e2 n2 h => ?_)))
    refine rdownW hT r ip h1 l2 id.2 (fun y e => LO l y l2 l3 e) 25 _ (dn - 1) v2 σ4 (by decide) fl h (Int.le_refl _) l1 e2 n2 (fun t y t1 t2 => absurd t2 (Int.not_lt.mpr t1)) fun d y σ5 s1 s2 s3 s4 s5 s6 h => ?_
    refine bnd (rdrop' h rfl fun σ6 h => ?_)
    have ke' := ke.trans (KE.one q4.ok)
    have u1 : lo + 1 ≤ u := Int.le_trans (Int.add_le_add_right w.a 1) q1
    have u2 := Int.le_trans q2 b2
    have c60 : c + 60 ≤ cE := Nat.le_trans (Nat.add_le_add_left (Nat.le_mul_of_pos_right 60 (Nat.succ_pos fuel)) c) hc
    have lo' : ∀ t z, lo ≤ t → t < u → gI P1 t = some z → kv key z ≤ kv key pivot := fun t z t1 t2 et =>
      if q : t ≤ up then LO t z t1 q et else Int.le_of_lt (q6 t z (Int.not_le.mp q) t2 et)
    have hi' : ∀ t z, d < t → t ≤ top → gI P1 t = some z → kv key pivot ≤ kv key z := fun t z t1 t2 et =>
      if q : dn ≤ t then HI t z q t2 et else Int.le_of_lt (s6 t z (Int.le_sub_one_of_lt (Int.not_le.mp q)) t1 et)
    refine tIf (fun hcc => pur (k u σ6 P1 _ u1 u2 sg0 r ep (fun t z t1 t2 => lo' t z t1 (Int.lt_of_le_sub_one t2)) (fun t z t1 t2 => hi' t z (Int.lt_of_lt_of_le hcc t1) t2) ke' (by simp) (h.roll (Nat.le_trans (Nat.add_le_add_left (by decide) c) c60) hE))) fun hcc => ?_
    have ud := Int.not_lt.mp hcc
    have w' := w.turn q1 s1 hcc
    have iu : Ix N u := Ix.of h1 h3 w'.a u2
    have idd : Ix N d := Ix.of h1 h3 (Int.le_of_lt w'.d) w'.e
    refine bnd (rput' h s4 iu rfl fun σ7 h => bnd (rput' h q4 idd rfl fun σ8 h => ?_))
    have sg := SG.swap (lo := lo) (hi := top) q3 s3 (Int.le_of_lt h1) w'.a u2 (Int.le_of_lt w'.d) w'.e
    have dt : d < top := Int.lt_of_le_of_lt s1 (Int.lt_of_lt_of_le (Int.sub_lt_self dn (by decide)) w.e)
    have g3 : ∀ t, lo ≤ t → gI ((P1.set u.toNat y).set d.toNat x) t = if t = d then some x else if t = u then some y else gI P1 t := fun t ht => gI_swap q3 s3 (Int.le_of_lt iu.1) (Int.le_of_lt idd.1) (Int.le_trans (Int.le_of_lt h1) ht)
    refine ih u d _ _ (c + 60) σ8 w' (h.roll (Nat.add_le_add_left (by decide) c) (Nat.le_trans c60 hE)) (by rw [Nat.add_assoc, Nat.add_comm 60]; exact hc) (r.sg sg h1 h3) (sg0.trans sg) ke' ?_ (fun t z t1 t2 et => ?_) (fun t z t1 t2 et => ?_)
    · exact (sw_o q3 s3 iu.1 idd.1 (Int.le_trans idd.1 (Int.le_of_lt dt)) (Int.ne_of_gt (Int.lt_of_le_of_lt ud dt)) (Int.ne_of_gt dt)).trans ep
    · rw [g3 t t1] at et
      split at et
      · rename_i td
        have hu : u = d := Int.le_antisymm ud (td ▸ t2)
        rw [hu, s3] at q3
        cases et; cases q3; exact s5
      split at et
      · cases et; exact s5
      · rename_i tu
        exact lo' t z t1 (Int.lt_iff_le_and_ne.mpr ⟨t2, tu⟩) et
    · rw [g3 t (Int.le_trans (Int.le_of_lt w'.d) t1)] at et
      split at et
      · cases et; exact q5
      split at et
      · rename_i tu
        have hu : u = d := Int.le_antisymm ud (tu ▸ t1)
        rw [hu, s3] at q3
        cases et; cases q3; exact q5
      · rename_i td _
        exact hi' t z (Int.lt_iff_le_and_ne.mpr ⟨t1, Ne.symm td⟩) t2 et

theorem rpart {Q : Int → Sg → Prop} (h : Sr N c 9 P H K σ) (r : IR N P) (h1 : 1 ≤ lo) (h2 : lo + 3 ≤ hi) (h3 : hi ≤ N) (hN : N ≤ 24) (a1 : LeA key P lo ((lo + hi) / 2)) (a2 : LeA key P ((lo + hi) / 2) hi) (hb : c + 2000 ≤ 100000)
    (k : ∀ u σ' P' K' pv, lo + 1 ≤ u → u ≤ hi - 1 → SG lo hi P P' → IR N P' → Lo key P' lo u pv → Hi key P' u hi pv → KE K K' → K' ≠ [] → Sr N (c + 2000) 0 P' H K' σ' → Q u σ') : tPart tl 25 lo hi Q E σ := by
  have m1 : lo < (lo + hi) / 2 := by lia
  have m2 : (lo + hi) / 2 < hi - 1 := by lia
  have t2 : hi - 1 < hi := Int.sub_lt_self hi (by decide)
  have tN := Int.le_trans (Int.le_of_lt t2) h3
  have ml := Int.le_of_lt m1
  have mh := Int.le_of_lt m2
  have lt := Int.le_trans ml mh
  have im : Ix N ((lo + hi) / 2) := Ix.of h1 tN ml mh
  have it : Ix N (hi - 1) := Ix.of h1 tN lt (Int.le_refl _)
  have ih : Ix N hi := ⟨Int.le_trans it.1 (Int.le_of_lt t2), h3⟩
  have il : Ix N lo := ⟨h1, Int.le_trans lt it.2⟩
  obtain ⟨xl, el⟩ := h.lt' il
  obtain ⟨xh, eh⟩ := h.lt' ih
  refine bnd (rget' h r im rfl fun pv σ1 e1 i1 h => bnd (rget' h r it rfl fun v2 σ2 e2 i2 h => ?_))
  have b1 := a1 _ _ el e1
  have b2 := a2 _ _ e1 eh
  refine bnd (rput' h i2 im rfl fun σ3 h => bnd (rput' h i1 it rfl fun σ4 h => ?_))
  have sg := SG.swap (lo := lo) (hi := hi) e1 e2 (Int.le_of_lt h1) ml (Int.le_trans mh (Int.le_of_lt t2)) lt (Int.le_of_lt t2)
  refine bnd (rpartW hT (top := hi - 1) i1 h1 (Int.le_of_lt t2) tN hN (c + 1600) (Nat.le_trans (Nat.add_le_add_left (show 1600 ≤ 2000 by decide) c) hb) (fun u σ5 P2 K2 g1 g2 g3 g4 g5 g6 g7 g8 g9 h => ?_) 25 lo (hi - 1) _ K (c + 13) σ4 ⟨Int.le_refl _, Int.lt_trans m1 m2, lt, Int.lt_trans m1 m2, Int.le_refl _, by lia⟩ (h.roll (Nat.le_refl _) (Nat.le_trans (Nat.add_le_add_left (show 9 + 1 + 1 + 1 + 1 ≤ 2000 by decide) c) hb)) ?_ (r.sg sg h1 h3) SG.refl KE.refl (sw_j e1 e2 im.1 it.1) (fun t y t1 t2 et => ?_) (fun t y t1 t2 et => ?_))
  · have iu : Ix N u := Ix.of (Int.le_add_one h1) tN g1 g2
    refine bnd (rget' h g4 it rfl fun v5 σ6 e5 i5 h => bnd (rget' h g4 iu rfl fun v6 σ7 e6 i6 h => ?_))
    rw [g5] at e5; cases e5
    refine bnd (rput' h i6 it rfl fun σ3 h => bnd (rput' h i1 iu rfl fun σ4 h => ?_))
    have lu := Int.le_trans (Int.le_add_one (Int.le_refl lo)) g1
    have uh := Int.le_trans g2 (Int.le_of_lt t2)
    have sg2 := SG.swap (lo := lo) (hi := hi) g5 e6 (Int.le_of_lt h1) lt (Int.le_of_lt t2) lu uh
    have g0 : ∀ t, lo ≤ t → gI ((P2.set (hi - 1).toNat v6).set u.toNat pv) t = if t = u then some pv else if t = hi - 1 then some v6 else gI P2 t := fun t ht => gI_swap g5 e6 (Int.le_of_lt it.1) (Int.le_of_lt iu.1) (Int.le_trans (Int.le_of_lt h1) ht)
    refine pur (k u _ _ K2 (kv key pv) g1 g2 ((sg.trans (g3.wide (Int.le_of_lt h1) (Int.le_refl _) (Int.le_of_lt t2))).trans sg2) (g4.sg sg2 h1 h3) (fun t y t1 t2' et => ?_) (fun t y t1 t2' et => ?_) g8 g9 (h.roll (by rw [Nat.add_assoc]; exact Nat.add_le_add_left (by decide) c) hb))
    · rw [g0 t t1] at et
      split at et
      · cases et; exact Int.le_refl _
      · rename_i tu
        have tl := Int.lt_iff_le_and_ne.mpr ⟨t2', tu⟩
        rw [if_neg (Int.ne_of_lt (Int.lt_of_lt_of_le tl g2))] at et
        exact g6 t y t1 (Int.le_sub_one_of_lt tl) et
    · rw [g0 t (Int.le_trans lu t1)] at et
      split at et
      · cases et; exact Int.le_refl _
      split at et
      · cases et; exact g7 u _ (Int.le_refl _) g2 e6
      · rename_i tu tt
        rcases Int.lt_or_eq_of_le t2' with q | q
        · exact g7 t y t1 (Int.le_sub_one_of_lt q) et
        · rw [q, g3.off _ (Int.le_of_lt ih.1) (.inr t2), sw_o e1 e2 im.1 it.1 ih.1 (Int.ne_of_gt (Int.lt_trans m2 t2)) (Int.ne_of_gt t2), eh] at et
          cases et; exact b2
  · rw [Nat.add_assoc]; exact Nat.add_le_add_left (by decide) c
  · rw [Int.le_antisymm t2 t1, sw_o e1 e2 im.1 it.1 h1 (Int.ne_of_lt m1) (Int.ne_of_lt (Int.lt_trans m1 m2)), el] at et
    cases et; exact b1
  · rw [Int.le_antisymm t2 t1, sw_j e1 e2 im.1 it.1] at et
    cases et; exact Int.le_refl _
end
end Mine
end

section
open PySem PySem.W PySem.Calls PyProof.Rows PySem.Spec PySem.SeqAt PyProof.V
set_option Elab.async false
set_option maxRecDepth 100000
namespace Mine

section
variable {key : Int → Int} {P P' : List Value} {lo hi u : Int} {pv : Int}

theorem SG.below {lo' hi' : Int} {p : Value → Prop} (x : SG lo' hi' P P') (h0 : 0 ≤ lo) (h : ∀ t y, lo ≤ t → t ≤ hi → gI P t = some y → p y) (c : (lo ≤ lo' ∧ hi' ≤ hi) ∨ hi < lo' ∨ hi' < lo) : ∀ t y, lo ≤ t → t ≤ hi → gI P' t = some y → p y := by
  rcases c with c | c
  · exact (x.wide h0 c.1 c.2).inn p h
  · intro t y a b e
    rw [x.off t (Int.le_trans h0 a) (c.imp (Int.lt_of_le_of_lt b) (fun q => Int.lt_of_lt_of_le q a))] at e
    exact h t y a b e
theorem Srt.off {lo' hi' : Int} (s : Srt key P lo hi) (x : SG lo' hi' P P') (h0 : 0 ≤ lo) (c : hi < lo' ∨ hi' < lo) : Srt key P' lo hi := by
  intro i j a b d v w e f
  have lj := Int.le_trans a b
  have ih := Int.le_trans b d
  rw [x.off i (Int.le_trans h0 a) (c.imp (Int.lt_of_le_of_lt ih) (fun q => Int.lt_of_lt_of_le q a))] at e
  rw [x.off j (Int.le_trans h0 lj) (c.imp (Int.lt_of_le_of_lt d) (fun q => Int.lt_of_lt_of_le q lj))] at f
  exact s i j a b d v w e f
theorem Srt.join (s1 : Srt key P lo (u - 1)) (s2 : Srt key P (u + 1) hi) (b1 : Lo key P lo u pv) (b2 : Hi key P u hi pv) : Srt key P lo hi := by
  intro i j a b d
  by_cases c1 : j < u
  · exact s1 i j a b (Int.le_sub_one_of_lt c1)
  by_cases c2 : u < i
  · exact s2 i j c2 b d
  exact fun x y e f => Int.le_trans (b1 i x a (Int.not_lt.mp c2) e) (b2 j y (Int.not_lt.mp c1) d f)
theorem Srt.few (h : hi ≤ lo) : Srt key P lo hi := fun i j a b d => by
  rw [Int.le_antisymm b (Int.le_trans d (Int.le_trans h a))]; exact LeA.refl
theorem LeA.trans {i j l : Int} {v : Value} (h : gI P j = some v) (a : LeA key P i j) (b : LeA key P j l) : LeA key P i l := fun x y e f => Int.le_trans (a x v e h) (b v y h f)
theorem Srt.two (h : LeA key P lo hi) (e : hi = lo + 1) : Srt key P lo hi := fun i j a b d => by
  subst e
  by_cases c : i = j
  · subst c; exact LeA.refl
  · rw [show i = lo by lia, show j = lo + 1 by lia]; exact h
theorem Srt.three {mid : Int} {v : Value} (hv : gI P mid = some v) (h : LeA key P lo mid) (h' : LeA key P mid hi) (em : mid = lo + 1) (e : hi = mid + 1) : Srt key P lo hi := by
  have s1 : Srt key P lo (hi - 1) := by
    rw [show hi - 1 = mid by lia]; exact Srt.two h em
  intro i j a b d
  by_cases c : j ≤ hi - 1
  · exact s1 i j a b c
  have hj : j = hi := by lia
  subst hj
  by_cases c1 : i = lo
  · subst c1; exact h.trans hv h'
  by_cases c2 : i = mid
  · subst c2; exact h'
  rw [show i = j by lia]; exact LeA.refl
end

section
variable {N : Nat} {H : List Value} {E : Sg → Prop} {tl : Value → Value → Tr Bool} {key : Int → Int}

/-- a sorting's end -/
structure Ends (N c : Nat) (key : Int → Int) (lo hi : Int) (P H K : List Value) (m : Nat) (σ : Sg) (P' K' : List Value) : Prop where
  g : SG lo hi P P'
  s : Srt key P' lo hi
  r : IR N P'
  ke : KE K K'
  ne : lo + 3 ≤ hi → K' ≠ []
  eq : hi < lo + 3 → K' = K
  h : Sr N (c + 2000 * m) 0 P' H K' σ

/-- both halves are sorted -/
theorem Ends.both {N c : Nat} {lo hi u pv : Int} {P H K K3 P3 : List Value} {m ml mr : Nat} {σ' σ'' : Sg} {P4 K4 P5 K5 : List Value} (h0 : 1 ≤ lo) (u1 : lo + 1 ≤ u) (u2 : u ≤ hi - 1) (g3 : SG lo hi P P3) (b1 : Lo key P3 lo u pv) (b2 : Hi key P3 u hi pv) (ke : KE K K3) (ne : K3 ≠ [])
    (hc : lo + 3 ≤ hi) (hm : ml + mr + 1 ≤ m) (hb : c + 2000 * m ≤ 100000) {l1 r1 l2 r2 : Int} (hq : (l1 = lo ∧ r1 = u - 1 ∧ l2 = u + 1 ∧ r2 = hi) ∨ (l2 = lo ∧ r2 = u - 1 ∧ l1 = u + 1 ∧ r1 = hi))
    (e1 : Ends N (c + 2000) key l1 r1 P3 H K3 ml σ' P4 K4) (e2 : Ends N (c + 2000 + 2000 * ml) key l2 r2 P4 H K4 mr σ'' P5 K5) : Ends N c key lo hi P H K m σ'' P5 K5 := by
  have hl : 0 ≤ lo := Int.le_of_lt h0
  have l0 : 0 ≤ u := Int.le_trans hl (Int.le_trans (Int.le_add_one (Int.le_refl lo)) u1)
  have p1 : lo ≤ u + 1 := by lia
  have p2 : u - 1 ≤ hi := by lia
  have p3 : u ≤ hi := by lia
  have p4 : lo ≤ u := by lia
  have q1 : u - 1 < u + 1 := by lia
  have q2 : u - 1 < u := Int.sub_lt_self u (by decide)
  have q3 : u < u + 1 := Int.lt_add_one_of_le (Int.le_refl u)
  have hcost : c + 2000 + 2000 * ml + 2000 * mr ≤ c + 2000 * m := by lia
  have fin : SG lo hi P3 P5 ∧ Srt key P5 lo hi := by
    rcases hq with ⟨rfl, rfl, rfl, rfl⟩ | ⟨rfl, rfl, rfl, rfl⟩
    · have b1 := e2.g.below hl (e1.g.below hl b1 (.inl ⟨Int.le_refl _, Int.le_of_lt q2⟩)) (.inr (.inl q3))
      have b2 := e2.g.below l0 (e1.g.below l0 b2 (.inr (.inr q2))) (.inl ⟨Int.le_of_lt q3, Int.le_refl _⟩)
      exact ⟨(e1.g.wide hl (Int.le_refl _) p2).trans (e2.g.wide hl p1 (Int.le_refl _)), Srt.join (e1.s.off e2.g hl (.inl q1)) e2.s b1 b2⟩
    · have b1 := e2.g.below hl (e1.g.below hl b1 (.inr (.inl q3))) (.inl ⟨Int.le_refl _, Int.le_of_lt q2⟩)
      have b2 := e2.g.below l0 (e1.g.below l0 b2 (.inl ⟨Int.le_of_lt q3, Int.le_refl _⟩)) (.inr (.inr q2))
      exact ⟨(e1.g.wide hl p1 (Int.le_refl _)).trans (e2.g.wide hl (Int.le_refl _) p2), Srt.join e2.s (e1.s.off e2.g (Int.le_trans hl p1) (.inr q1)) b1 b2⟩
  exact ⟨g3.trans fin.1, fin.2, e2.r, (ke.trans e1.ke).trans e2.ke, fun _ => (e1.ke.trans e2.ke).ne ne, fun q => absurd hc (Int.not_le.mpr q), e2.h.roll hcost hb⟩

variable (hT : ∀ (x y : Value) (Q : Bool → Sg → Prop) (E : Sg → Prop) (σ : Sg), IsI x → IsI y → Q (decide (kv key x < kv key y)) σ → tl x y Q E σ)
include hT

theorem rsort (hN : N ≤ 24) (f : Nat) : ∀ (m : Nat) (lo hi : Int) (P K : List Value) (c : Nat) (σ : Sg) (Q : Unit → Sg → Prop), m ≤ f → hi < lo + m → Sr N c 0 P H K σ → IR N P → 1 ≤ lo → hi ≤ N → c + 2000 * m ≤ 100000 →
    (∀ σ' P' K', Ends N c key lo hi P H K m σ' P' K' → Q () σ') → tSort tl 25 (f + 1) lo hi Q E σ := by
  induction f with
  | zero =>
    intro m lo hi P K c σ Q hf hm h r h1 h3 hb k
    have e := Nat.le_zero.mp hf
    subst e
    have h2 : hi < lo := by simpa using hm
    rw [tSort_eq, if_neg (Int.not_lt.mpr (Int.le_of_lt h2))]
    exact k _ _ _ ⟨SG.refl, Srt.few (Int.le_of_lt h2), r, KE.refl, fun q => absurd q (by lia), fun _ => rfl, h⟩
  | succ f ih =>
    intro m lo hi P K c σ Q hf hm h r h1 h3 hb k
    rw [tSort_eq]
    refine tIf (fun h2 => ?_) (fun h2 => pur (k _ _ _ ⟨SG.refl, Srt.few (Int.not_lt.mp h2), r, KE.refl, fun q => absurd q (by lia), fun _ => rfl, h.roll (Nat.le_add_right c _) hb⟩))
    have i1 : Ix N lo := Ix.of h1 h3 (Int.le_refl _) (Int.le_of_lt h2)
    have i3 : Ix N hi := Ix.of h1 h3 (Int.le_of_lt h2) (Int.le_refl _)
    have mp : 1 ≤ m := by lia
    have c2 : c + 2000 ≤ c + 2000 * m := Nat.add_le_add_left (Nat.le_mul_of_pos_right 2000 mp) c
    refine bnd (rtwo hT h r i1 i3 h2 fun σ1 P1 g1 l1 r1 h => ?_)
    refine tIf (fun c1 => pur (k _ _ _ ⟨g1, Srt.two l1 (by lia), r1, KE.refl, fun q => absurd q (by lia), fun _ => rfl, h.roll (Nat.le_trans (Nat.add_le_add_left (by decide) c) c2) hb⟩)) fun c1 => ?_
    refine bnd (rmid hT h r1 l1 i1 i3 (mid := (lo + hi) / 2) (by lia) (by lia) fun σ2 P2 g2 l2 l2' r2 h => ?_)
    have g2 := g1.trans g2
    refine tIf (fun c2' => ?_) fun c2' => ?_
    · obtain ⟨xm, em⟩ := h.lt' (i := (lo + hi) / 2) (Ix.of h1 h3 (by lia) (by lia))
      exact pur (k _ _ _ ⟨g2, Srt.three em l2 l2' (by lia) (by lia), r2, KE.refl, fun q => absurd q (by lia), fun _ => rfl, h.roll (Nat.le_trans (Nat.add_le_add_left (by decide) c) c2) hb⟩)
    have hc : lo + 3 ≤ hi := by lia
    refine bnd (rpart hT h r2 h1 hc h3 hN l2 l2' (Nat.le_trans c2 hb) fun u σ3 P3 K3 pv u1 u2 g3 r3 b1 b2 ke ne h => ?_)
    have g3 := g2.trans g3
    obtain ⟨ml, hml⟩ : ∃ ml : Nat, u = lo + ml := ⟨(u - lo).toNat, by lia⟩
    obtain ⟨mr, hmr⟩ : ∃ mr : Nat, hi = u + mr := ⟨(hi - u).toNat, by lia⟩
    have hs : ml + mr + 1 ≤ m := by lia
    have fl : ml ≤ f := by lia
    have fr : mr ≤ f := by lia
    have la : u - 1 < lo + (ml : Int) := by lia
    have ra : hi < u + 1 + (mr : Int) := by lia
    have lo1 : 1 ≤ u + 1 := by lia
    have hi1 : u - 1 ≤ N := by lia
    have cs : c + 2000 + 2000 * ml + 2000 * mr ≤ 100000 := by lia
    have cs' : c + 2000 + 2000 * mr + 2000 * ml ≤ 100000 := by lia
    refine tIf (fun _ => bnd ?_) fun _ => bnd ?_
    · exact ih ml lo (u - 1) _ _ _ _ _ fl la h r3 h1 hi1 (Nat.le_trans (Nat.le_add_right _ _) cs) fun σ4 P4 K4 e1 =>
        ih mr (u + 1) hi _ _ _ _ _ fr ra e1.h e1.r lo1 h3 cs fun σ5 P5 K5 e2 => k _ _ _ (Ends.both h1 u1 u2 g3 b1 b2 ke ne hc hs hb (.inl ⟨rfl, rfl, rfl, rfl⟩) e1 e2)
    · exact ih mr (u + 1) hi _ _ _ _ _ fr ra h r3 lo1 h3 (Nat.le_trans (Nat.le_add_right _ _) cs') fun σ4 P4 K4 e1 =>
        ih ml lo (u - 1) _ _ _ _ _ fl la e1.h e1.r h1 hi1 cs' fun σ5 P5 K5 e2 => k _ _ _ (Ends.both h1 u1 u2 g3 b1 b2 ke ne hc (by lia) hb (.inr ⟨rfl, rfl, rfl, rfl⟩) e1 e2)
end

theorem ints_of : ∀ {vs : List Value}, (∀ v ∈ vs, IsI v) → ∃ ns, IntsAre vs ns
  | [], _ => ⟨[], .nil⟩
  | v :: vs, h => by
    obtain ⟨a, t, rfl⟩ := h v (.head _)
    obtain ⟨ns, x⟩ := ints_of (vs := vs) fun v hv => h v (.tail _ hv)
    exact ⟨a :: ns, .cons a t x⟩
theorem kv_ints {key : Int → Int} {vs : List Value} {ns : List Int} (x : IntsAre vs ns) : vs.map (kv key) = ns.map key := by
  induction x with
  | nil => rfl
  | cons a t _ ih => rw [List.map_cons, List.map_cons, ih]; rfl

/-- the list of the places at first -/
abbrev row (ivs : List Value) (t u : Tok) : List Value := .str "begin" t :: (ivs ++ [.str "end" u])

theorem gI_row {ivs : List Value} {t u : Tok} {i : Int} (h1 : 1 ≤ i) (h2 : i ≤ ivs.length) : gI (row ivs t u) i = ivs[(i - 1).toNat]? := by
  obtain ⟨m, rfl⟩ : ∃ m : Nat, i = m + 1 := ⟨(i - 1).toNat, by lia⟩
  unfold gI
  rw [show ((m : Int) + 1).toNat = m + 1 by lia, show ((m : Int) + 1 - 1).toNat = m by lia, List.getElem?_cons_succ, List.getElem?_append_left (by lia)]

theorem head_of {ivs P : List Value} {t u : Tok} (h : P.Perm (row ivs t u)) (h0 : gI P 0 = gI (row ivs t u) 0) : ∃ t rest, P = .str "begin" t :: rest ∧ (rest.map vkey).Perm (ivs.map vkey ++ [((none, "end") : Option Int × Str)]) := by
  cases P with
  | nil => cases h0
  | cons b rest =>
    have hb : b = .str "begin" t := Option.some.inj h0
    subst hb
    refine ⟨t, rest, rfl, ?_⟩
    have := (List.Perm.cons_inv h).map vkey
    rw [List.map_append] at this
    exact this

theorem mainChance (tb : List Bool) (ivs : List Value) (ns : List Int) (hi : IntsAre ivs ns) :
    ∃ nn k, k ≤ 150 ∧ ∀ t u, tSort tlChance nn k 1 ns.length (fun _ σ => LawGood 3 true ivs σ ∧ σ.n < 100000) (fun σ => LawGood 3 false ivs σ ∧ σ.n < 100000) (sg0 ivs (future tb 0) t u) := by
  have hvl := hi.length
  refine ⟨100, 100, by decide, fun t u => ?_⟩
  have hF : (future tb 0).length = 80 := by simp [future]
  have good : ∀ (d : Bool) {σ : Sg} {o j : Nat} {P H : List Value}, Sc ns.length o j P H σ → GP (row ivs t u) P → Nat.ble j 1000 = true → (d = true → H = []) → LawGood 3 d ivs σ ∧ σ.n < 100000 := by
    intro d σ o j P H h g hj hd
    refine ⟨⟨fun i hi => hvl ▸ h.S i hi, ?_, fun _ e => h.h.trans (hd e), fun q => absurd rfl q⟩, ?_⟩
    · rw [h.p]; exact head_of g.perm g.zero
    · exact Nat.lt_of_le_of_lt (Nat.le_trans (Nat.le_add_right _ _) (Nat.le_trans h.n (Nat.add_le_add_left (Nat.le_of_ble_eq_true hj) _))) (by decide)
  refine csort (N := ns.length) (H := []) (P₀ := row ivs t u) (E := fun σ => LawGood 3 false ivs σ ∧ σ.n < 100000) (fun h g hb => good false h g hb (fun q => by cases q)) 100 81 1 ns.length (row ivs t u) _ _ (by decide) (by decide) ⟨rfl, rfl, fun i hi => (by cases hi), by rw [hF]; decide, (by show 0 + 40 * (future tb 0).length ≤ _; rw [hF]; decide), ?_⟩ ⟨.refl _, rfl⟩ (by decide) (Int.le_refl _) fun σ' P' h g => good true h g rfl (fun _ => rfl)
  show (ivs ++ [_]).length + 1 = _
  rw [List.length_append, hvl]; rfl

theorem mainReal {kind : Int} {tl : Value → Value → Tr Bool} {key : Int → Int} (h3 : kind ≠ 3) (hT : ∀ (x y : Value) (Q : Bool → Sg → Prop) (E : Sg → Prop) (σ : Sg), IsI x → IsI y → Q (decide (kv key x < kv key y)) σ → tl x y Q E σ)
    (ho : ∀ ms : List Int, ms.Pairwise (fun a b => key a ≤ key b) → OrdBy kind ms) (ivs : List Value) (ns : List Int) (hi : IntsAre ivs ns) (hl : ns.length ≤ 24) :
    ∃ nn k, k ≤ 150 ∧ ∀ t u, tSort tl nn k 1 ns.length (fun _ σ => LawGood kind true ivs σ ∧ σ.n < 100000) (fun σ => LawGood kind false ivs σ ∧ σ.n < 100000) (sg0 ivs [] t u) := by
  have hvl := hi.length
  refine ⟨25, 25, by decide, fun t u => ?_⟩
  have hlen : (row ivs t u).length = ns.length + 2 := by
    show (ivs ++ [_]).length + 1 = _
    rw [List.length_append, hvl]; rfl
  refine rsort (N := ns.length) (H := []) hT hl 24 ns.length 1 ns.length (row ivs t u) [] 0 _ _ hl (by lia) ⟨rfl, rfl, rfl, fun i hi => (by cases hi), Nat.le_refl _, by decide, hlen⟩ (fun i v h1 h2 e => ?_) (by decide) (Int.le_refl _) (by lia) fun σ P K ⟨sg, srt, ir, ke, k3, k3', h⟩ => ?_
  · rw [gI_row h1 (by lia)] at e
    obtain ⟨a, t, rfl, _⟩ := ints_at hi e
    exact ⟨a, t, rfl⟩
  have hn := h.n
  have h0 : gI P 0 = gI (row ivs t u) 0 := sg.off 0 (by decide) (by lia)
  have hN : gI P ((ns.length : Int) + 1) = gI (row ivs t u) ((ns.length : Int) + 1) := sg.off _ (by lia) (by lia)
  refine ⟨⟨fun i hi => ?_, by rw [h.p]; exact head_of sg.perm h0, fun q => absurd q h3, fun _ => ⟨rfl, h.h, ?_, fun v hv => ?_, fun i hi => ?_, ?_⟩⟩, by lia⟩
  · have x := h.S i hi
    rw [hvl]; exact ⟨Int.le_of_lt x.1, Int.le_add_one x.2⟩
  · rw [h.k]
    refine ⟨fun q => ?_, fun q => k3 (by lia)⟩
    by_cases c : 3 < ivs.length
    · exact c
    · exact absurd (k3' (by lia)) q
  · rw [h.k] at hv
    obtain ⟨ks, rfl, ok⟩ := ke
    exact ok v hv
  · rw [hvl]; exact h.S i hi
  · rw [h.p]
    have hpl := h.len
    obtain ⟨b, rest, rfl⟩ : ∃ b rest, P = b :: rest := by
      cases P with
      | nil => cases h0
      | cons b rest => exact ⟨b, rest, rfl⟩
    have hb : b = .str "begin" t := Option.some.inj h0
    subst hb
    have hrl : rest.length = ns.length + 1 := by simpa using hpl
    obtain ⟨ps, e, rfl⟩ : ∃ ps e, rest = ps ++ [e] := by
      rcases List.eq_nil_or_concat rest with q | ⟨ps, e, q⟩
      · rw [q] at hrl; cases hrl
      · exact ⟨ps, e, by simpa using q⟩
    have hps : ps.length = ns.length := by simpa using hrl
    have he : e = .str "end" u := by
      unfold gI at hN
      rw [show ((ns.length : Int) + 1).toNat = ns.length + 1 by lia, List.getElem?_cons_succ, List.getElem?_cons_succ, List.getElem?_append_right (by lia), List.getElem?_append_right (by lia), show ns.length - ps.length = 0 by lia, show ns.length - ivs.length = 0 by lia] at hN
      exact Option.some.inj hN
    subst he
    have gp : ∀ j (hj : j < ps.length), gI (.str "begin" t :: (ps ++ [.str "end" u])) ((j : Int) + 1) = some ps[j] := fun j hj => by
      rw [show (Value.str "begin" t :: (ps ++ [Value.str "end" u])) = row ps t u from rfl, gI_row (by lia) (by lia), show ((j : Int) + 1 - 1).toNat = j by lia]
      exact List.getElem?_eq_getElem hj
    obtain ⟨ms, hms⟩ := ints_of (vs := ps) fun v hv => by
      obtain ⟨j, hj, rfl⟩ := List.mem_iff_getElem.mp hv
      exact ir _ _ (by lia) (by lia) (gp j hj)
    refine ⟨t, u, ps, ms, rfl, hms, ?_, ho ms ?_⟩
    · have p1 : (ps ++ [Value.str "end" u]).Perm (ivs ++ [Value.str "end" u]) := List.Perm.cons_inv sg.perm
      exact ((List.perm_append_right_iff _).mp p1).map vkey
    · have pw : ps.Pairwise fun a b => kv key a ≤ kv key b := by
        rw [List.pairwise_iff_getElem]
        intro i j hi hj hij
        exact srt ((i : Int) + 1) ((j : Int) + 1) (by lia) (by lia) (by lia) _ _ (gp i hi) (gp j hj)
      have pm : (ps.map (kv key)).Pairwise (· ≤ ·) := List.pairwise_map.mpr pw
      rw [kv_ints hms] at pm
      exact List.pairwise_map.mp pm

theorem mainOk : MainOk := by
  intro kind orel tl O₀ hk ivs ns hi hl
  cases hk with
  | chance tb => exact mainChance tb ivs ns hi
  | up =>
    refine mainReal (kind := 0) (key := fun i => i) (by decide) (fun x y Q E σ hx hy h => ?_) (fun ms p => And.intro (fun _ => p) (And.intro (fun q => absurd q (by decide)) (fun q => absurd q (by decide)))) ivs ns hi hl
    obtain ⟨a, t, rfl⟩ := hx
    obtain ⟨b, u, rfl⟩ := hy
    exact ⟨a, t, b, u, rfl, rfl, h⟩
  | down =>
    refine mainReal (kind := 1) (key := fun i => -i) (by decide) (fun x y Q E σ hx hy h => ?_) (fun ms p => And.intro (fun q => absurd q (by decide)) (And.intro (fun _ => p.imp fun h => by lia) (fun q => absurd q (by decide)))) ivs ns hi hl
    obtain ⟨a, t, rfl⟩ := hx
    obtain ⟨b, u, rfl⟩ := hy
    refine ⟨a, t, b, u, rfl, rfl, ?_⟩
    have : decide (b < a) = decide (kv (fun i => -i) (.int a t) < kv (fun i => -i) (.int b u)) := by
      rw [Bool.eq_iff_iff, decide_eq_true_iff, decide_eq_true_iff]
      show b < a ↔ -a < -b
      lia
    show Q (decide (b < a)) σ
    rw [this]; exact h
  | rest =>
    refine mainReal (kind := 2) (key := fun i => i.fmod 4) (by decide) (fun x y Q E σ hx hy h => ?_) (fun ms p => And.intro (fun q => absurd q (by decide)) (And.intro (fun q => absurd q (by decide)) (fun _ => p))) ivs ns hi hl
    obtain ⟨a, t, rfl⟩ := hx
    obtain ⟨b, u, rfl⟩ := hy
    exact ⟨a, t, b, u, rfl, rfl, h⟩
end Mine
end

open PySem PySem.W PyProof.Rows
set_option maxRecDepth 100000 in
set_option maxHeartbeats 8000000 in
theorem PySem.Challenge.cw_nt0631_01_holds : PySem.Challenge.rw_nt0631_01.Holds :=
  Mine.hd (by
  w_strict (k_go0; skip)
  rename_i X T K F c1 c2 N l0
  refine Mine.law_start (G := ghostOf _ [(124, 120), (117, 113), (110, 106)]) (aW := _) ⟨X, ⟨_, _, _, _, _, T⟩, c1, c2, codeHd, ?_, ?_⟩ Mine.rowsOk Mine.mainOk ?_ F N (by assumption) (by rfl) (by assumption) (by assumption) (by omega) ?_
  · intro b hb
    refine hideAll_none _ ?_
    simp only [List.mem_cons, List.not_mem_nil, or_false] at hb
    rcases hb with rfl | rfl | rfl <;> decide
  · intro b hb
    rw [show (ghostOf _ [(124, 120), (117, 113), (110, 106)]).objs.size = _ from hideAll_size _ _]
    simp only [List.mem_cons, List.not_mem_nil, or_false] at hb
    obtain ⟨a1, a2, a3⟩ := l0
    rcases hb with rfl | rfl | rfl <;> assumption
  · exact Nat.le_of_eq (hideAll_size _ _)
  · intro h' tk st tb
    obtain ⟨⟨p1, e1, _⟩, ⟨p2, e2, _⟩, ⟨p3, e3, _⟩⟩ := tb
    refine ⟨⟨.inl ⟨.bool true, .bool true, [], rfl, raisesW_false ?_, .bool true, ?_, unshared_nil⟩, st, rfl, by assumption⟩, ⟨_, e2⟩, ⟨_, e1⟩, ⟨_, e3⟩, trivial⟩
    · wrow_none_raised
    · kc_post)
