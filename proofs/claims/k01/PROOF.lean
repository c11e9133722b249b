import PyProof.Rows.All
import Wide.All
import OpenK.AllK
import Wide.FinOn
import HandS.ForMost
import HandS.ForExc
import HandS.Slots
import HandS.SlotsOwn
import HandS.TupAny
import HandS.Wide
import HandS.EndBits
import KE.GoesMore
import KE.GoesEnum
import HandS.CallSlots
import HandS.Style
import HandS.SortInts
import HandS.IsInst
import HandS.TupMul
import HandS.Deep
import KE.DataEq
import HandS.MakeKw
import HandS.Head0
import HandS.Head1
import HandS.Head2
import HandS.HeadEnd
import HandS.HeadHook1
import HandS.HeadHook2
import HandS.HeadHook3
import HandS.HeadNt
import PyProof.FitsInt
import PySem.Challenge.RW_gapalbums_k01_settings_made
set_option Elab.async false
set_option linter.all false
set_option maxRecDepth 100000
set_option maxHeartbeats 2000000
namespace GI
open PySem PySem.Spec PyProof.Rows L2
/-- data: tuples and lists by value; scr: a list that is only read (the script); obj: an instance that no longer changes, its slots; loc: a thing of the store; fn: a def of the module -/
inductive Dat where
  | non | bl (b : Bool) | int (i : Int) | str (x : Str)
  | tup (ds : List Dat) | lst (ds : List Dat) | scr (ds : List Dat)
  | obj (c : Str) (ds : List Dat)
  | loc (n : Nat)
  | fn (x : Str)
/-- a thing of the store: a dict with text keys -/
inductive SObj where
  | dk (kvs : List (Str × Dat))
abbrev Sto := List SObj
mutual
inductive Rep (K : PySem.W.Frag) (mg : Str → Option Value) (G : Hp) (ρ : List Addr) : V → Dat → Prop
  | non : Rep K mg G ρ .non .non
  | bl (b : Bool) : Rep K mg G ρ (.bl b) (.bl b)
  | int (i : Int) : Rep K mg G ρ (.int i) (.int i)
  | str (x : Str) : Rep K mg G ρ (.str x) (.str x)
  | tup {a : Addr} {vs : List V} {ds : List Dat} : SqT K G a vs → RepL K mg G ρ vs ds → Rep K mg G ρ (.ref a) (.tup ds)
  | lst {a : Addr} {vs : List V} {ds : List Dat} : G a = some (.lst vs) → RepL K mg G ρ vs ds → Rep K mg G ρ (.ref a) (.lst ds)
  | scr {a : Addr} {vs : List V} {ds : List Dat} : SqL K G a vs → RepL K mg G ρ vs ds → Rep K mg G ρ (.ref a) (.scr ds)
  | obj {a C dx : Addr} {c : Str} {vs : List V} {ds : List Dat} : mg c = some (.ref C) → G a = some (SlX.SlO a C dx (vs.map some)) → G dx = some (.xd []) → RepL K mg G ρ vs ds → Rep K mg G ρ (.ref a) (.obj c ds)
  | loc {a : Addr} {n : Nat} : ρ[n]? = some a → Rep K mg G ρ (.ref a) (.loc n)
  | fn {a : Addr} {x : Str} : mg x = some (.ref a) → Rep K mg G ρ (.ref a) (.fn x)
inductive RepL (K : PySem.W.Frag) (mg : Str → Option Value) (G : Hp) (ρ : List Addr) : List V → List Dat → Prop
  | nil : RepL K mg G ρ [] []
  | cons {v : V} {vs : List V} {d : Dat} {ds : List Dat} : Rep K mg G ρ v d → RepL K mg G ρ vs ds → RepL K mg G ρ (v :: vs) (d :: ds)
end
/-- a state: G what no longer changes, H what stands, r the store's places, st the store, me the instance in the making -/
structure Sx where
  G : Hp
  H : Hp
  r : List Addr
  st : Sto
  me : Option Addr := none
section
variable (K : PySem.W.Frag) (mg : Str → Option Value)
abbrev RepS (S : Sx) : V → Dat → Prop := Rep K mg S.G S.r
abbrev RepSL (S : Sx) : List V → List Dat → Prop := RepL K mg S.G S.r
def SRep (S : Sx) (a : Addr) : SObj → Prop
  | .dk kvs => ∃ es : List (Key × V), S.H a = some (.dK es) ∧ Paired (fun (e : Key × V) (kv : Str × Dat) => e.1 = Sum.inr kv.1 ∧ RepS K mg S e.2 kv.2) es kvs ∧ (kvs.map (·.1)).Nodup ∧ kvs.length ≤ 1000
structure SOk (S : Sx) : Prop where
  sub : ∀ a o, S.G a = some o → S.H a = some o
  len : S.r.length = S.st.length
  nd : S.r.Nodup
  out : ∀ a, a ∈ S.r → S.G a = none
  here : ∀ (n : Nat) (a : Addr) (o : SObj), S.r[n]? = some a → S.st[n]? = some o → SRep K mg S a o
end
structure Ext (S S' : Sx) : Prop where
  gle : ∀ a o, S.G a = some o → S'.G a = some o
  pre : S.r <+: S'.r
  keep : ∀ a o, S.H a = some o → a ∉ S.r → S'.H a = some o
  nof : ∀ a o, S.H a = some o → S.G a = none → S'.G a = none
  new : ∀ a, a ∈ S'.r → a ∈ S.r ∨ S.H a = none
  me : S'.me = S.me := by rfl
section
variable {K : PySem.W.Frag} {mg : Str → Option Value} {S S' S'' S0 : Sx} {v : V} {d : Dat} {vs : List V} {ds : List Dat} {a : Addr} {o : HO}
theorem SOk.st_of_mem (k : SOk K mg S) (h : a ∈ S.r) : ∃ (n : Nat) (o : SObj), S.r[n]? = some a ∧ S.st[n]? = some o ∧ SRep K mg S a o := by
  obtain ⟨n, hn⟩ := List.mem_iff_getElem?.mp h
  have hl : n < S.st.length := by
    rw [← k.len]
    exact (List.getElem?_eq_some_iff.mp hn).1
  exact ⟨n, S.st[n], hn, List.getElem?_eq_getElem hl, k.here n a _ hn (List.getElem?_eq_getElem hl)⟩
theorem SOk.there (k : SOk K mg S) (h : a ∈ S.r) : ∃ o, S.H a = some o := by
  obtain ⟨n, o, _, _, q⟩ := k.st_of_mem h
  cases o with
  | dk kvs =>
    obtain ⟨es, e, _⟩ := q
    exact ⟨_, e⟩
theorem Ext.refl (S : Sx) : Ext S S := ⟨fun _ _ h => h, List.prefix_refl _, fun _ _ h _ => h, fun _ _ _ h => h, fun _ h => .inl h, rfl⟩
theorem Ext.trans (k' : SOk K mg S') (x : Ext S S') (y : Ext S' S'') : Ext S S'' where
  me := y.me.trans x.me
  gle := fun a o h => y.gle a o (x.gle a o h)
  pre := x.pre.trans y.pre
  keep := fun a o h n => by
    refine y.keep a o (x.keep a o h n) fun hm => ?_
    rcases x.new a hm with q | q
    · exact n q
    · rw [h] at q; cases q
  nof := fun a o h g => by
    by_cases hm : a ∈ S.r
    · obtain ⟨o', e⟩ := k'.there (x.pre.subset hm)
      exact y.nof a o' e (x.nof a o h g)
    · exact y.nof a o (x.keep a o h hm) (x.nof a o h g)
  new := fun a h => by
    rcases y.new a h with q | q
    · exact x.new a q
    · refine .inr ?_
      cases e : S.H a with
      | none => rfl
      | some o =>
        by_cases hm : a ∈ S.r
        · obtain ⟨o', e'⟩ := k'.there (x.pre.subset hm)
          rw [e'] at q; cases q
        · rw [x.keep a o e hm] at q; cases q
theorem rd_mono {G G' : Hp} (g : ∀ a o, G a = some o → G' a = some o) {a : Addr} {u : HO} (h : Rd G a u) : Rd G' a u := by
  rcases h with h | ⟨o, h⟩
  · exact .inl (g _ _ h)
  · exact .inr ⟨o, g _ _ h⟩
theorem sqL_mono {G G' : Hp} (g : ∀ a o, G a = some o → G' a = some o) (h : SqL K G a vs) : SqL K G' a vs := by
  rcases h with h | h
  · exact .inl (rd_mono g h)
  · exact .inr h
theorem sqT_mono {G G' : Hp} (g : ∀ a o, G a = some o → G' a = some o) (h : SqT K G a vs) : SqT K G' a vs := by
  rcases h with h | h
  · exact .inl (rd_mono g h)
  · exact .inr h
theorem pre_get {r r' : List Addr} (p : r <+: r') {n : Nat} (h : r[n]? = some a) : r'[n]? = some a := by
  obtain ⟨t, rfl⟩ := p
  rw [List.getElem?_append_left (List.getElem?_eq_some_iff.mp h).1]
  exact h
mutual
theorem Rep.mono {G G' : Hp} {r r' : List Addr} (g : ∀ a o, G a = some o → G' a = some o) (p : r <+: r') : ∀ {v : V} {d : Dat}, Rep K mg G r v d → Rep K mg G' r' v d
  | _, _, .non => .non
  | _, _, .bl b => .bl b
  | _, _, .int i => .int i
  | _, _, .str x => .str x
  | _, _, .tup h q => .tup (sqT_mono g h) (q.mono g p)
  | _, _, .lst h q => .lst (g _ _ h) (q.mono g p)
  | _, _, .scr h q => .scr (sqL_mono g h) (q.mono g p)
  | _, _, .obj m h h2 q => .obj m (g _ _ h) (g _ _ h2) (q.mono g p)
  | _, _, .loc h => .loc (pre_get p h)
  | _, _, .fn h => .fn h
theorem RepL.mono {G G' : Hp} {r r' : List Addr} (g : ∀ a o, G a = some o → G' a = some o) (p : r <+: r') : ∀ {vs : List V} {ds : List Dat}, RepL K mg G r vs ds → RepL K mg G' r' vs ds
  | _, _, .nil => .nil
  | _, _, .cons h q => .cons (h.mono g p) (q.mono g p)
end
theorem Rep.ext (h : RepS K mg S v d) (x : Ext S S') : RepS K mg S' v d := h.mono x.gle x.pre
theorem RepL.ext (h : RepSL K mg S vs ds) (x : Ext S S') : RepSL K mg S' vs ds := h.mono x.gle x.pre
theorem RepL.length : ∀ {G : Hp} {r : List Addr} {vs : List V} {ds : List Dat}, RepL K mg G r vs ds → vs.length = ds.length
  | _, _, _, _, .nil => rfl
  | _, _, _, _, .cons _ q => congrArg (· + 1) q.length
theorem RepL.get : ∀ {G : Hp} {r : List Addr} {vs : List V} {ds : List Dat} {i : Nat} {d : Dat}, RepL K mg G r vs ds → ds[i]? = some d → ∃ v, vs[i]? = some v ∧ Rep K mg G r v d
  | _, _, _, _, _, _, .nil, h => by simp at h
  | _, _, _, _, 0, _, .cons h _, e => by
    simp at e
    subst e
    exact ⟨_, rfl, h⟩
  | _, _, _, _, i + 1, _, .cons _ q, e => by
    obtain ⟨v, h1, h2⟩ := q.get (i := i) (by simpa using e)
    exact ⟨v, by simpa using h1, h2⟩
theorem RepL.getV : ∀ {G : Hp} {r : List Addr} {vs : List V} {ds : List Dat} {i : Nat} {v : V}, RepL K mg G r vs ds → vs[i]? = some v → ∃ d, ds[i]? = some d ∧ Rep K mg G r v d
  | _, _, _, _, _, _, .nil, h => by simp at h
  | _, _, _, _, 0, _, .cons h _, e => by
    simp at e
    subst e
    exact ⟨_, rfl, h⟩
  | _, _, _, _, i + 1, _, .cons _ q, e => by
    obtain ⟨v, h1, h2⟩ := q.getV (i := i) (by simpa using e)
    exact ⟨v, by simpa using h1, h2⟩
theorem RepL.append : ∀ {G : Hp} {r : List Addr} {vs ws : List V} {ds es : List Dat}, RepL K mg G r vs ds → RepL K mg G r ws es → RepL K mg G r (vs ++ ws) (ds ++ es)
  | _, _, _, _, _, _, .nil, q => q
  | _, _, _, _, _, _, .cons h t, q => .cons h (t.append q)
theorem RepL.take : ∀ {G : Hp} {r : List Addr} {vs : List V} {ds : List Dat} (n : Nat), RepL K mg G r vs ds → RepL K mg G r (vs.take n) (ds.take n)
  | _, _, _, _, 0, _ => .nil
  | _, _, _, _, _ + 1, .nil => .nil
  | _, _, _, _, n + 1, .cons h q => .cons h (q.take n)
theorem RepL.drop : ∀ {G : Hp} {r : List Addr} {vs : List V} {ds : List Dat} (n : Nat), RepL K mg G r vs ds → RepL K mg G r (vs.drop n) (ds.drop n)
  | _, _, _, _, 0, q => q
  | _, _, _, _, _ + 1, .nil => .nil
  | _, _, _, _, n + 1, .cons _ q => q.drop n
theorem RepL.reverse : ∀ {G : Hp} {r : List Addr} {vs : List V} {ds : List Dat}, RepL K mg G r vs ds → RepL K mg G r vs.reverse ds.reverse
  | _, _, _, _, .nil => .nil
  | _, _, _, _, .cons h q => by
    rw [List.reverse_cons, List.reverse_cons]
    exact q.reverse.append (.cons h .nil)
theorem RepL.set : ∀ {G : Hp} {r : List Addr} {vs : List V} {ds : List Dat} (i : Nat) {v : V} {d : Dat}, RepL K mg G r vs ds → Rep K mg G r v d → RepL K mg G r (vs.set i v) (ds.set i d)
  | _, _, _, _, _, _, _, .nil, _ => .nil
  | _, _, _, _, 0, _, _, .cons _ t, q => .cons q t
  | _, _, _, _, i + 1, _, _, .cons h t, q => .cons h (t.set i q)
theorem RepL.ints : ∀ {G : Hp} {r : List Addr} {vs : List V} {ns : List Int}, RepL K mg G r vs (ns.map Dat.int) → vs = ns.map V.int
  | _, _, _, [], h => by cases h; rfl
  | _, _, _, n :: ns, h => by
    cases h with
    | cons h q =>
      cases h
      rw [q.ints]
      rfl
theorem RepL.of_ints {G : Hp} {r : List Addr} : ∀ (ns : List Int), RepL K mg G r (ns.map V.int) (ns.map Dat.int)
  | [] => .nil
  | n :: ns => .cons (.int n) (RepL.of_ints ns)
theorem SOk.noG (k : SOk K mg S) (h : S.H a = none) : S.G a = none := by
  cases e : S.G a with
  | none => rfl
  | some o => rw [k.sub a o e] at h; cases h
theorem SOk.nor (k : SOk K mg S) (h : S.H a = none) : a ∉ S.r := fun hm => by
  obtain ⟨o, e⟩ := k.there hm
  rw [e] at h; cases h
theorem SRep.mono {o : SObj} (q : SRep K mg S a o) (x : Ext S S') (h : ∀ u, S.H a = some u → S'.H a = some u) : SRep K mg S' a o := by
  cases o with
  | dk kvs =>
    obtain ⟨es, e, p, hu⟩ := q
    exact ⟨es, h _ e, Paired.mapP p fun _ _ z => ⟨z.1, z.2.ext x⟩, hu⟩
/-- a new thing that no longer changes -/
def Sx.put (S : Sx) (p : Addr) (o : HO) : Sx := { S with G := upd S.G p o, H := upd S.H p o }
/-- a new thing that may change -/
def Sx.lay (S : Sx) (p : Addr) (o : HO) : Sx := { S with H := upd S.H p o }
/-- it no longer changes -/
def Sx.ice (S : Sx) (p : Addr) (o : HO) : Sx := { S with G := upd S.G p o }
theorem upd_mono {H : Hp} {p : Addr} {o : HO} (h : H p = none) : ∀ a u, H a = some u → upd H p o a = some u := fun a u e => by
  rw [upd_ne (ne_of_none e h)]; exact e
theorem Ext.put (k : SOk K mg S) {p : Addr} (h : S.H p = none) (o : HO) : Ext S (S.put p o) :=
  ⟨upd_mono (k.noG h), List.prefix_refl _, fun a u e _ => upd_mono h a u e, fun a u e g => by
    show upd S.G p o a = none
    rw [upd_ne (ne_of_none e h)]; exact g, fun a hm => .inl hm, rfl⟩
theorem SOk.put (k : SOk K mg S) {p : Addr} (h : S.H p = none) (o : HO) : SOk K mg (S.put p o) where
  sub := fun a u e => by
    show upd S.H p o a = some u
    have e : upd S.G p o a = some u := e
    by_cases z : a = p
    · subst z; rw [upd_same] at e ⊢; exact e
    · rw [upd_ne z] at e ⊢; exact k.sub a u e
  len := k.len
  nd := k.nd
  out := fun a hm => by
    show upd S.G p o a = none
    have z : a ≠ p := fun z => k.nor h (z ▸ hm)
    rw [upd_ne z]; exact k.out a hm
  here := fun n a ob h1 h2 => (k.here n a ob h1 h2).mono (Ext.put k h o) fun u e => upd_mono h a u e
theorem Ext.lay (k : SOk K mg S) {p : Addr} (h : S.H p = none) (o : HO) : Ext S (S.lay p o) :=
  ⟨fun _ _ e => e, List.prefix_refl _, fun a u e _ => upd_mono h a u e, fun _ _ _ g => g, fun _ hm => .inl hm, rfl⟩
theorem SOk.lay (k : SOk K mg S) {p : Addr} (h : S.H p = none) (o : HO) : SOk K mg (S.lay p o) where
  sub := fun a u e => upd_mono h a u (k.sub a u e)
  len := k.len
  nd := k.nd
  out := k.out
  here := fun n a ob h1 h2 => (k.here n a ob h1 h2).mono (Ext.lay k h o) fun u e => upd_mono h a u e
end
end GI
set_option Elab.async false
set_option linter.all false
set_option maxRecDepth 100000
set_option maxHeartbeats 2000000
namespace GI
open PySem PySem.Spec PyProof.Rows L2
/-- what a name holds: data; or a list that this name alone holds and that may change; or an instance in the making, its slots so far -/
inductive Slot where
  | sh (d : Dat) | ow (ds : List Dat) | ob (c : Str) (es : List (Option Dat))
abbrev Env := List (Option Slot)
inductive Out (α : Type) where
  | ok (a : α) (st : Sto) | ex (c : Str) (fs : List (Str × Dat)) (st : Sto) | bad
inductive SOut where
  | nx (env : Env) (st : Sto) | rt (d : Dat) (st : Sto) | bk (env : Env) (st : Sto) | ct (env : Env) (st : Sto)
  | ex (c : Str) (fs : List (Str × Dat)) (env : Env) (st : Sto) | bad
abbrev Ev := Env → Sto → Out Dat
abbrev EvL := Env → Sto → Out (List Dat)
abbrev Exe := Env → Sto → SOut
structure Gx (S S' : Sx) : Prop where
  gle : ∀ a o, S.G a = some o → S'.G a = some o
  pre : S.r <+: S'.r
  me : S'.me = S.me := by rfl
/-- from the entry S0, behind S -/
structure Go (S0 S S' : Sx) : Prop where
  x : Ext S0 S'
  g : Gx S S'
theorem Gx.refl (S : Sx) : Gx S S := ⟨fun _ _ h => h, List.prefix_refl _, rfl⟩
theorem Gx.trans {S S' S'' : Sx} (a : Gx S S') (b : Gx S' S'') : Gx S S'' := ⟨fun x o h => b.gle x o (a.gle x o h), a.pre.trans b.pre, b.me.trans a.me⟩
theorem Ext.gx {S S' : Sx} (x : Ext S S') : Gx S S' := ⟨x.gle, x.pre, x.me⟩
theorem Rep.gx {K : PySem.W.Frag} {mg : Str → Option Value} {S S' : Sx} {v : V} {d : Dat} (h : RepS K mg S v d) (x : Gx S S') : RepS K mg S' v d := h.mono x.gle x.pre
theorem RepL.gx {K : PySem.W.Frag} {mg : Str → Option Value} {S S' : Sx} {vs : List V} {ds : List Dat} (h : RepSL K mg S vs ds) (x : Gx S S') : RepSL K mg S' vs ds := h.mono x.gle x.pre
section
variable (K : PySem.W.Frag) (mg : Str → Option Value)
/-- slots so far -/
def RepO (S : Sx) (vs : List (Option V)) (es : List (Option Dat)) : Prop := vs.length ≤ es.length ∧ ∀ (i : Nat) (d : Dat), es[i]? = some (some d) → ∃ v, vs[i]? = some (some v) ∧ RepS K mg S v d
def SlotRep (S : Sx) (v : V) (A : List Addr) : Slot → Prop
  | .sh d => A = [] ∧ RepS K mg S v d
  | .ow ds => ∃ p vs, A = [p] ∧ v = .ref p ∧ S.H p = some (.lst vs) ∧ RepSL K mg S vs ds
  | .ob c es => ∃ a C dx vs, A = [a, dx] ∧ v = .ref a ∧ S.me = some a ∧ mg c = some (.ref C) ∧ SlX.Slt S.H a C dx vs ∧ dx ≠ a ∧ RepO K mg S vs es
structure EnvRep (S0 S : Sx) (σ : L2.St) (env : Env) : Prop where
  len : σ.length = env.length
  fp : ∃ A : Nat → List Addr, (∀ (i : Nat) (s : Slot), env[i]? = some (some s) → ∃ v, σ[i]? = some (some v) ∧ SlotRep K mg S v (A i) s) ∧
    (∀ (i : Nat) (p : Addr), p ∈ A i → S0.H p = none ∧ S.G p = none ∧ p ∉ S.r ∧ ∃ o, S.H p = some o) ∧ ∀ (i j : Nat) (p : Addr), p ∈ A i → p ∈ A j → i = j
def ExcRep (S : Sx) (c : Str) (fs : List (Str × Dat)) (cls : Value) (d : Option Addr) : Prop :=
  ∃ C dx es, mg c = some (.ref C) ∧ cls = .ref C ∧ d = some dx ∧ S.G dx = some (.xd es) ∧ Paired (fun (e : Str × V) (f : Str × Dat) => e.1 = f.1 ∧ RepS K mg S e.2 f.2) es fs
/-- what an expression's outcome asks -/
def outE {α : Type} (W : WX) (σ : L2.St) (S : Sx) (o : Out α) (q : α → Sto → Prop) : Prop := match o with
  | .ok d st => q d st
  | .ex c fs st => ∀ S' cls dx, Ext S S' → SOk K mg S' → S'.st = st → ExcRep K mg S' c fs cls dx → W cls dx σ S'.H
  | .bad => False
def tE (S0 : Sx) (W : WX) (f : Ev) : TE := fun σ H Q => ∃ S env, S.H = H ∧ SOk K mg S ∧ EnvRep K mg S0 S σ env ∧
  outE K mg W σ S (f env S.st) fun d st => ∀ v S', Ext S S' → SOk K mg S' → S'.st = st → RepS K mg S' v d → Q v S'.H
def tEs (S0 : Sx) (W : WX) (f : EvL) : TA := fun σ H Q => ∃ S env, S.H = H ∧ SOk K mg S ∧ EnvRep K mg S0 S σ env ∧
  outE K mg W σ S (f env S.st) fun ds st => ∀ vs S', Ext S S' → SOk K mg S' → S'.st = st → RepSL K mg S' vs ds → Q vs S'.H
def tT (S0 : Sx) (W : WX) (f : Ev) : TT := fun σ H Q => ∃ S env, S.H = H ∧ SOk K mg S ∧ EnvRep K mg S0 S σ env ∧
  outE K mg W σ S (f env S.st) fun d st => ∃ b, d = .bl b ∧ ∀ S', Ext S S' → SOk K mg S' → S'.st = st → Q b S'.H
/-- what a statement's outcome asks -/
def outS (S0 S : Sx) (W : WX) (D : Ends) (o : SOut) : Prop := match o with
  | .nx env' st => ∀ σ' S', SOk K mg S' → Go S0 S S' → S'.st = st → EnvRep K mg S0 S' σ' env' → D.nx σ' S'.H
  | .bk env' st => ∀ σ' S', SOk K mg S' → Go S0 S S' → S'.st = st → EnvRep K mg S0 S' σ' env' → D.bk σ' S'.H
  | .ct env' st => ∀ σ' S', SOk K mg S' → Go S0 S S' → S'.st = st → EnvRep K mg S0 S' σ' env' → D.ct σ' S'.H
  | .rt d st => ∀ v S', SOk K mg S' → Go S0 S S' → S'.st = st → RepS K mg S' v d → D.rt v S'.H
  | .ex c fs env' st => ∀ σ' S' cls dx, SOk K mg S' → Go S0 S S' → S'.st = st → EnvRep K mg S0 S' σ' env' → ExcRep K mg S' c fs cls dx → W cls dx σ' S'.H
  | .bad => False
def tS (S0 : Sx) (W : WX) (f : Exe) : TS := fun D σ H => ∃ S env, S.H = H ∧ SOk K mg S ∧ EnvRep K mg S0 S σ env ∧ Ext S0 S ∧ outS K mg S0 S W D (f env S.st)
end
def De (X : Cx) (W : WX) (e : Expr) (f : Ev) : Prop := ∀ S0, PE X e (tE X.K X.mg S0 W f)
def Des (X : Cx) (W : WX) (es : List Expr) (f : EvL) : Prop := ∀ S0, PA X es (tEs X.K X.mg S0 W f)
def Dt (X : Cx) (W : WX) (e : Expr) (f : Ev) : Prop := ∀ S0, PT X e (tT X.K X.mg S0 W f)
def Dw (X : Cx) (W : WX) (e : Expr) (f : Ev) : Prop := ∀ S0, PW X e (tT X.K X.mg S0 W f)
def Ds (X : Cx) (W : WX) (st : Stmt) (f : Exe) : Prop := ∀ S0, PS X st (tS X.K X.mg S0 W f)
def Dss (X : Cx) (W : WX) (st : List Stmt) (f : Exe) : Prop := ∀ S0, PSs X st (tS X.K X.mg S0 W f)
section
variable {X : Cx} {e : Expr}
theorem peW {t t' : TE} (h : PE X e t) (i : ∀ σ H Q, t' σ H Q → t σ H Q) : PE X e t' := ⟨fun pins s σ H Q I q => h.run pins s σ H Q I (i σ H Q q)⟩
theorem ptW {t t' : TT} (h : PT X e t) (i : ∀ σ H Q, t' σ H Q → t σ H Q) : PT X e t' := ⟨fun pins s σ H Q I q => h.run pins s σ H Q I (i σ H Q q)⟩
theorem pwW {t t' : TT} (h : PW X e t) (i : ∀ σ H Q, t' σ H Q → t σ H Q) : PW X e t' := ⟨fun wh pins s σ H Q I q => h.run wh pins s σ H Q I (i σ H Q q)⟩
theorem paW {es : List Expr} {t t' : TA} (h : PA X es t) (i : ∀ σ H Q, t' σ H Q → t σ H Q) : PA X es t' := ⟨fun pos pins s σ H Q I q => h.run pos pins s σ H Q I (i σ H Q q)⟩
theorem psW {st : Stmt} {t t' : TS} (h : PS X st t) (i : ∀ D σ H, t' D σ H → t D σ H) : PS X st t' := ⟨fun pins s σ H D I q => h.run pins s σ H D I (i D σ H q)⟩
theorem pssW {st : List Stmt} {t t' : TS} (h : PSs X st t) (i : ∀ D σ H, t' D σ H → t D σ H) : PSs X st t' := ⟨fun pins s σ H D I q => h.run pins s σ H D I (i D σ H q)⟩
end
section
variable {K : PySem.W.Frag} {mg : Str → Option Value} {S S' S0 : Sx} {σ : L2.St} {env : Env}
theorem SlotRep.agree {v : V} {A : List Addr} {s : Slot} (h : SlotRep K mg S v A s) (x : Gx S S') (hk : ∀ p ∈ A, ∀ o, S.H p = some o → S'.H p = some o) : SlotRep K mg S' v A s := by
  cases s with
  | sh d => exact ⟨h.1, h.2.gx x⟩
  | ow ds =>
    obtain ⟨p, vs, rfl, rfl, hp, hr⟩ := h
    exact ⟨p, vs, rfl, rfl, hk p (by simp) _ hp, hr.gx x⟩
  | ob c es =>
    obtain ⟨a, C, dx, vs, rfl, rfl, hme, hm, hs, hd, hl, hr⟩ := h
    refine ⟨a, C, dx, vs, rfl, rfl, x.me.trans hme, hm, ?_, hd, hl, fun i d e => ?_⟩
    · rcases hs with ⟨q, e⟩ | ⟨q, e⟩
      · exact .inl ⟨hk a (by simp) _ q, e⟩
      · exact .inr ⟨hk a (by simp) _ q, hk dx (by simp) _ e⟩
    · obtain ⟨v, e1, r⟩ := hr i d e
      exact ⟨v, e1, r.gx x⟩
theorem SlotRep.ext {v : V} {A : List Addr} {s : Slot} (h : SlotRep K mg S v A s) (x : Ext S S') (hk : ∀ p ∈ A, p ∉ S.r) : SlotRep K mg S' v A s :=
  h.agree x.gx fun p hp o e => x.keep _ _ e (hk p hp)
theorem EnvRep.ext (h : EnvRep K mg S0 S σ env) (x : Ext S S') : EnvRep K mg S0 S' σ env := by
  obtain ⟨hl, A, h1, h2, h3⟩ := h
  refine ⟨hl, A, fun i s e => ?_, fun i p hp => ?_, h3⟩
  · obtain ⟨v, e1, q⟩ := h1 i s e
    exact ⟨v, e1, q.ext x fun p hp => (h2 i p hp).2.2.1⟩
  · obtain ⟨a1, a2, a3, o, a4⟩ := h2 i p hp
    refine ⟨a1, x.nof _ _ a4 a2, fun hm => ?_, o, x.keep _ _ a4 a3⟩
    rcases x.new p hm with q | q
    · exact a3 q
    · rw [a4] at q; cases q
theorem EnvRep.get (h : EnvRep K mg S0 S σ env) {i : Nat} {d : Dat} (e : env[i]? = some (some (.sh d))) : ∃ v, σ[i]? = some (some v) ∧ RepS K mg S v d := by
  obtain ⟨hl, A, h1, h2, h3⟩ := h
  obtain ⟨v, e1, q⟩ := h1 i _ e
  exact ⟨v, e1, q.2⟩
def updA (A : Nat → List Addr) (i : Nat) (x : List Addr) : Nat → List Addr := fun j => if j = i then x else A j
theorem updA_same {A : Nat → List Addr} {i : Nat} {x : List Addr} : updA A i x i = x := if_pos rfl
theorem updA_ne {A : Nat → List Addr} {i j : Nat} {x : List Addr} (h : j ≠ i) : updA A i x j = A j := if_neg h
/-- a slot changes -/
theorem EnvRep.put {S1 : Sx} (h : EnvRep K mg S0 S1 σ env) (x : Ext S1 S) (i : Nat) {v : V} {s : Slot} {B : List Addr} (q : SlotRep K mg S v B s)
    (hB : ∀ p ∈ B, S0.H p = none ∧ S.G p = none ∧ p ∉ S.r ∧ ∃ o, S.H p = some o) (hn : ∀ p ∈ B, S1.H p = none ∨ ∃ (ds : List Dat), env[i]? = some (some (.ow ds)) ∧ σ[i]? = some (some (.ref p))) :
    EnvRep K mg S0 S (σ.set i (some v)) (env.set i (some s)) := by
  have h' := h.ext x
  obtain ⟨hl, A, h1, h2, h3⟩ := h
  have hA : ∀ (j : Nat) (p : Addr), p ∈ A j → S0.H p = none ∧ S.G p = none ∧ p ∉ S.r ∧ ∃ o, S.H p = some o := fun j p hp => by
    obtain ⟨a1, a2, a3, o, a4⟩ := h2 j p hp
    refine ⟨a1, x.nof _ _ a4 a2, fun hm => ?_, o, x.keep _ _ a4 a3⟩
    rcases x.new p hm with q | q
    · exact a3 q
    · rw [a4] at q; cases q
  have far : ∀ (j : Nat) (p : Addr), j ≠ i → p ∈ B → p ∉ A j := fun j p z hp hm => by
    rcases hn p hp with q | ⟨ds, e, e2⟩
    · obtain ⟨_, _, _, o, a4⟩ := h2 j p hm
      rw [a4] at q; cases q
    · obtain ⟨v', e3, p', vs', ea, ev, _⟩ := h1 i _ e
      rw [e3] at e2
      cases e2
      cases ev
      exact z (h3 j i p hm (by rw [ea]; simp))
  refine ⟨by simp [hl], updA A i B, fun j s' e => ?_, fun j p hp => ?_, fun j k p hj hk => ?_⟩
  · by_cases z : j = i
    · subst z
      by_cases hi : j < env.length
      · rw [List.getElem?_set_self hi] at e
        cases e
        refine ⟨v, by rw [List.getElem?_set_self (by omega)], ?_⟩
        rw [updA_same]
        exact q
      · rw [List.getElem?_eq_none (by simpa using hi)] at e; cases e
    · rw [List.getElem?_set_ne (Ne.symm z)] at e
      obtain ⟨v', e1, q1⟩ := h1 j s' e
      refine ⟨v', by rw [List.getElem?_set_ne (Ne.symm z)]; exact e1, ?_⟩
      rw [updA_ne z]
      exact q1.ext x fun p hp => (h2 j p hp).2.2.1
  · by_cases z : j = i
    · subst z
      rw [updA_same] at hp
      exact hB p hp
    · rw [updA_ne z] at hp; exact hA j p hp
  · by_cases z : j = i
    · subst z
      rw [updA_same] at hj
      by_cases z2 : k = j
      · exact z2.symm
      · rw [updA_ne z2] at hk
        exact absurd hk (far k p z2 hj)
    · rw [updA_ne z] at hj
      by_cases z2 : k = i
      · subst z2
        rw [updA_same] at hk
        exact absurd hj (far j p z hk)
      · rw [updA_ne z2] at hk
        exact h3 j k p hj hk
theorem EnvRep.set (h : EnvRep K mg S0 S σ env) (i : Nat) {v : V} {d : Dat} (q : RepS K mg S v d) : EnvRep K mg S0 S (σ.set i (some v)) (env.set i (some (.sh d))) :=
  h.put (Ext.refl S) i (B := []) ⟨rfl, q⟩ (fun p hp => nomatch hp) fun p hp => nomatch hp
end
def sVar (i : Nat) : Ev := fun env st => match env[i]? with
  | some (some (.sh d)) => .ok d st
  | _ => .bad
def sC (d : Dat) : Ev := fun _ st => .ok d st
/-- data that need no heap -/
def flatD : Dat → Option V
  | .non => some .non | .bl b => some (.bl b) | .int i => some (.int i) | .str x => some (.str x) | _ => none
theorem rep_flat {K : PySem.W.Frag} {mg : Str → Option Value} {G : Hp} {r : List Addr} {d : Dat} {v : V} (h : flatD d = some v) : Rep K mg G r v d := by
  cases d <;> simp [flatD] at h <;> subst h
  · exact .non
  · exact .bl _
  · exact .int _
  · exact .str _
section
variable {X : Cx} {W : WX} {a b c e : Expr} {fa fb fc f : Ev} {pos : Pos}
theorem d_var (i : Nat) {x : Str} (hN : X.N[i]? = some x := by rfl) (hv : Vis X.env.scope x := by first | exact Or.inl rfl | exact Or.inr (Or.inl rfl) | exact Or.inr (Or.inr rfl)) (hd : (x == ("__debug__" : Str)) = false := by decide)
    (hcd : (x == ("__classdict__" : Str)) = false := by decide) : De X W (.Name x pos) (sVar i) := fun S0 => by
  refine peW (pe_var hN hv hd hcd) fun σ H Q h => ?_
  obtain ⟨S, env, rfl, ok, er, q⟩ := h
  unfold sVar at q
  split at q
  · rename_i d e
    obtain ⟨v, e1, r⟩ := er.get e
    exact ⟨v, e1, q v S (Ext.refl S) ok rfl r⟩
  · exact q.elim
theorem d_c {d : Dat} {v : V} (h : PE X e (tC v)) (hf : flatD d = some v) : De X W e (sC d) := fun S0 => by
  refine peW h fun σ H Q h => ?_
  obtain ⟨S, env, rfl, ok, er, q⟩ := h
  exact q v S (Ext.refl S) ok rfl (rep_flat hf)
theorem d_int {i : Int} {j} : De X W (.Constant (.int i) j pos) (sC (.int i)) := d_c pe_int rfl
theorem d_bl {i : Bool} {j} : De X W (.Constant (.bool i) j pos) (sC (.bl i)) := d_c pe_bl rfl
theorem d_non {j} : De X W (.Constant .none j pos) (sC .non) := d_c pe_non rfl
theorem d_str {i : Str} {j} : De X W (.Constant (.str i) j pos) (sC (.str i)) := d_c pe_str rfl
/-- a constant of the module -/
theorem d_glob {x : Str} {d : Dat} {v : V} {u : Value} (hg : Gl X x) (hm : X.mg x = some u) (r : RelV v u) (hf : flatD d = some v) (hd : (x == ("__debug__" : Str)) = false := by decide) : De X W (.Name x pos) (sC d) := d_c (pe_glob hg hm r hd) hf
def Out.bind {α β : Type} (o : Out α) (k : α → Sto → Out β) : Out β := match o with
  | .ok d st => k d st
  | .ex c fs st => .ex c fs st
  | .bad => .bad
def Out.of {α : Type} (o : Option α) (st : Sto) : Out α := match o with
  | some d => .ok d st
  | none => .bad
def s2 (g : Dat → Dat → Option Dat) (fa fb : Ev) : Ev := fun env st => (fa env st).bind fun x st1 => (fb env st1).bind fun y st2 => Out.of (g x y) st2
def s1 (g : Dat → Option Dat) (fa : Ev) : Ev := fun env st => (fa env st).bind fun x st1 => Out.of (g x) st1
/-- a two-place rule carries a function on data -/
def Op2 (K : PySem.W.Frag) (mg : Str → Option Value) (r : R2) (g : Dat → Dat → Option Dat) : Prop := ∀ (S : Sx) (x y : V) (dx dy d : Dat) (Q : VK), SOk K mg S → RepS K mg S x dx → RepS K mg S y dy → g dx dy = some d →
  (∀ v S', Ext S S' → SOk K mg S' → S'.st = S.st → RepS K mg S' v d → Q v S'.H) → r x y S.H Q
def Op1 (K : PySem.W.Frag) (mg : Str → Option Value) (r : V → Hp → VK → Prop) (g : Dat → Option Dat) : Prop := ∀ (S : Sx) (x : V) (dx d : Dat) (Q : VK), SOk K mg S → RepS K mg S x dx → g dx = some d →
  (∀ v S', Ext S S' → SOk K mg S' → S'.st = S.st → RepS K mg S' v d → Q v S'.H) → r x S.H Q
/-- going on behind a part -/
theorem outE.imp {K : PySem.W.Frag} {mg : Str → Option Value} {α β : Type} {σ : L2.St} {S : Sx} {o : Out α} {k : α → Sto → Out β} {q : β → Sto → Prop} {q' : α → Sto → Prop} (h : outE K mg W σ S (o.bind k) q)
    (hk : ∀ d st, outE K mg W σ S (k d st) q → q' d st) : outE K mg W σ S o q' := by
  cases o with
  | ok d st => exact hk d st h
  | ex c fs st => exact h
  | bad => exact h
theorem outE.later {K : PySem.W.Frag} {mg : Str → Option Value} {α : Type} {σ : L2.St} {S S' : Sx} {o : Out α} {q q' : α → Sto → Prop} (k' : SOk K mg S') (x : Ext S S') (h : outE K mg W σ S o q) (hq : ∀ d st, q d st → q' d st) : outE K mg W σ S' o q' := by
  cases o with
  | ok d st => exact hq d st h
  | ex c fs st => exact fun S2 cls dx x2 ok2 e2 r2 => h S2 cls dx (Ext.trans k' x x2) ok2 e2 r2
  | bad => exact h
/-- two expressions, then a rule -/
theorem tE2 {K : PySem.W.Frag} {mg : Str → Option Value} {S0 : Sx} {fa fb : Ev} {k : Env → Dat → Dat → Sto → Out Dat} {σ : L2.St} {H : Hp} {Q : VK} {R : V → V → Hp → Prop}
    (h : tE K mg S0 W (fun env st => (fa env st).bind fun x st1 => (fb env st1).bind fun y st2 => k env x y st2) σ H Q)
    (hk : ∀ (S : Sx) (x y : V) (dx dy : Dat) (env : Env), SOk K mg S → EnvRep K mg S0 S σ env → RepS K mg S x dx → RepS K mg S y dy → outE K mg W σ S (k env dx dy S.st) (fun d st => ∀ v S', Ext S S' → SOk K mg S' → S'.st = st → RepS K mg S' v d → Q v S'.H) → R x y S.H) :
    tE K mg S0 W fa σ H fun x H1 => tE K mg S0 W fb σ H1 fun y H2 => R x y H2 := by
  obtain ⟨S, env, rfl, ok, er, q⟩ := h
  refine ⟨S, env, rfl, ok, er, q.imp fun dx st1 q1 x S1 x1 ok1 e1 r1 => ?_⟩
  subst e1
  refine ⟨S1, env, rfl, ok1, er.ext x1, outE.imp (q1.later ok1 x1 fun d st z v S' xx ok' => z v S' (Ext.trans ok1 x1 xx) ok') fun dy st2 q2 y S2 x2 ok2 e2 r2 => ?_⟩
  subst e2
  exact hk S2 x y dx dy env ok2 ((er.ext x1).ext x2) (r1.ext x2) r2 (q2.later ok2 x2 fun d st z v S' xx ok' => z v S' (Ext.trans ok2 x2 xx) ok')
theorem d_op {op : Operator} {r : R2} {g : Dat → Dat → Option Dat} (ho : OpR X (binaryOp op) r) (hg : Op2 X.K X.mg r g) (ha : De X W a fa) (hb : De X W b fb) : De X W (.BinOp a op b pos) (s2 g fa fb) := fun S0 => by
  refine peW (pe_op ho (ha S0) (hb S0)) fun σ H Q h => ?_
  refine tE2 h fun S x y dx dy env ok er rx ry q => ?_
  cases e : g dx dy with
  | none => rw [e] at q; exact q.elim
  | some d =>
    rw [e] at q
    exact hg S x y dx dy d Q ok rx ry e q
theorem d_cmp {op : CmpOp} {r : R2} {g : Dat → Dat → Option Dat} (ho : OpR X (compareOp op) r) (hg : Op2 X.K X.mg r g) (ha : De X W a fa) (hb : De X W b fb) (hm : behindInMarks op b = false) : De X W (.Compare a [op] [b] pos) (s2 g fa fb) := fun S0 => by
  refine peW (pe_cmpR ho (ha S0) (hb S0) hm) fun σ H Q h => ?_
  refine tE2 h fun S x y dx dy env ok er rx ry q => ?_
  cases e : g dx dy with
  | none => rw [e] at q; exact q.elim
  | some d =>
    rw [e] at q
    exact hg S x y dx dy d Q ok rx ry e q
theorem d_un {op : UnaryOp} {r : V → Hp → VK → Prop} {g : Dat → Option Dat} (ho : UnR X (unaryOp op) r) (hg : Op1 X.K X.mg r g) (ha : De X W a fa) : De X W (.UnaryOp op a pos) (s1 g fa) := fun S0 => by
  refine peW (pe_un ho (ha S0)) fun σ H Q h => ?_
  obtain ⟨S, env, rfl, ok, er, q⟩ := h
  refine ⟨S, env, rfl, ok, er, q.imp fun dx st1 q1 x S1 x1 ok1 e1 r1 => ?_⟩
  subst e1
  cases e : g dx with
  | none => rw [e] at q1; exact q1.elim
  | some d =>
    rw [e] at q1
    exact hg S1 x dx d Q ok1 r1 e fun v S' xx ok' es => q1 v S' (Ext.trans ok1 x1 xx) ok' es
end
end GI
set_option Elab.async false
set_option linter.all false
set_option maxRecDepth 100000
set_option maxHeartbeats 2000000
namespace GI
open PySem PySem.Spec PyProof.Rows L2
def dNot : Dat → Option Dat
  | .bl b => some (.bl (!b))
  | _ => none
def sIte (ft fa fb : Ev) : Ev := fun env st => (ft env st).bind fun d st1 => match d with
  | .bl true => fa env st1
  | .bl false => fb env st1
  | _ => .bad
def sAnd (fa fb : Ev) : Ev := sIte fa fb (sC (.bl false))
def sOr (fa fb : Ev) : Ev := sIte fa (sC (.bl true)) fb
def sChain (g g' : Dat → Dat → Option Dat) (fa fb fc : Ev) : Ev := fun env st => (fa env st).bind fun x st1 => (fb env st1).bind fun y st2 => match g x y with
  | some (.bl true) => (fc env st2).bind fun z st3 => Out.of (g' y z) st3
  | some (.bl false) => .ok (.bl false) st2
  | _ => .bad
section
variable {X : Cx} {W : WX} {a b c e : Expr} {fa fb fc f : Ev} {pos : Pos} {rest : List Expr}
theorem d_chain {op op' : CmpOp} {r r' : R2} {g g' : Dat → Dat → Option Dat} (ho : OpR X (compareOp op) r) (ho' : OpR X (compareOp op') r') (hg : Op2 X.K X.mg r g) (hg' : Op2 X.K X.mg r' g') (ha : De X W a fa) (hb : De X W b fb) (hc : De X W c fc)
    (hm : lastMarks [op, op'] [b, c] = false := by with_unfolding_all rfl) : De X W (.Compare a [op, op'] [b, c] pos) (sChain g g' fa fb fc) := fun S0 => by
  refine peW (pe_chain ho ho' (ha S0) (hb S0) (hc S0) hm) fun σ H Q h => ?_
  refine tE2 h fun S x y dx dy env ok er rx ry q => ?_
  cases e : g dx dy with
  | none => rw [e] at q; exact q.elim
  | some d =>
    rw [e] at q
    cases d with
    | bl k =>
      cases k with
      | true =>
        refine hg S x y dx dy _ _ ok rx ry e fun v S1 x1 ok1 e1 r1 => ?_
        cases r1
        refine ⟨true, rfl, ?_⟩
        rw [if_pos rfl]
        have q : outE X.K X.mg W σ S ((fc env S.st).bind fun z st3 => Out.of (g' dy z) st3) _ := q
        refine ⟨S1, env, rfl, ok1, er.ext x1, ?_⟩
        rw [e1]
        refine outE.imp (q.later ok1 x1 fun d st z v S' xx ok' => z v S' (Ext.trans ok1 x1 xx) ok') fun dz st2 q2 z S2 x2 ok2 e2 r2 => ?_
        subst e2
        cases e3 : g' dy dz with
        | none => rw [e3] at q2; exact q2.elim
        | some d3 =>
          rw [e3] at q2
          exact hg' S2 y z dy dz d3 Q ok2 ((ry.ext x1).ext x2) r2 e3 fun v S' xx ok' es => q2 v S' (Ext.trans ok2 x2 xx) ok' es
      | false =>
        refine hg S x y dx dy _ _ ok rx ry e fun v S1 x1 ok1 e1 r1 => ?_
        cases r1
        refine ⟨false, rfl, ?_⟩
        rw [if_neg Bool.false_ne_true]
        exact q (.bl false) S1 x1 ok1 e1 (.bl false)
    | _ => exact (show False from q).elim
theorem dt_val (h : De X W e f) (he : ∀ whole, isTrue e X.env whole = (do let v ← whole; standAt e.pos; holding [v] (truthy v)) := by intro _; rfl) : Dt X W e f := fun S0 => by
  refine ptW (pt_val (h S0) he) fun σ H Q q => ?_
  obtain ⟨S, env, rfl, ok, er, q⟩ := q
  refine ⟨S, env, rfl, ok, er, q.later ok (Ext.refl S) fun d st z v S' xx ok' es r => ?_⟩
  obtain ⟨k, rfl, z⟩ := z
  cases r
  exact ⟨k, rfl, z S' xx ok' es⟩
theorem dt_cmp {op : CmpOp} {r : R2} {g : Dat → Dat → Option Dat} (ho : OpR X (compareOp op) r) (hg : Op2 X.K X.mg r g) (ha : De X W a fa) (hb : De X W b fb) (hm : behindInMarks op b = false) : Dt X W (.Compare a [op] [b] pos) (s2 g fa fb) := fun S0 => by
  refine ptW (pt_cmpR ho (ha S0) (hb S0) hm) fun σ H Q h => ?_
  obtain ⟨S, env, rfl, ok, er, q⟩ := h
  have h' : tE X.K X.mg S0 W (s2 g fa fb) σ S.H (fun x H' => ∃ k, x = .bl k ∧ Q k H') := ⟨S, env, rfl, ok, er, q.later ok (Ext.refl S) fun d st z v S' xx ok' es r => by
    obtain ⟨k, rfl, z⟩ := z
    cases r
    exact ⟨k, rfl, z S' xx ok' es⟩⟩
  refine tE2 h' fun S x y dx dy env ok er rx ry q => ?_
  cases e : g dx dy with
  | none => rw [e] at q; exact q.elim
  | some d =>
    rw [e] at q
    exact hg S x y dx dy d _ ok rx ry e q
theorem dt_chain {op op' : CmpOp} {r r' : R2} {g g' : Dat → Dat → Option Dat} (ho : OpR X (compareOp op) r) (ho' : OpR X (compareOp op') r') (hg : Op2 X.K X.mg r g) (hg' : Op2 X.K X.mg r' g') (ha : De X W a fa) (hb : De X W b fb) (hc : De X W c fc)
    (hm : lastMarks [op, op'] [b, c] = false := by with_unfolding_all rfl) : Dt X W (.Compare a [op, op'] [b, c] pos) (sChain g g' fa fb fc) := fun S0 => by
  refine ptW (pt_chain ho ho' (ha S0) (hb S0) (hc S0) hm) fun σ H Q h => ?_
  obtain ⟨S, env, rfl, ok, er, q⟩ := h
  have h' : tE X.K X.mg S0 W (sChain g g' fa fb fc) σ S.H (fun x H' => ∃ k, x = .bl k ∧ Q k H') := ⟨S, env, rfl, ok, er, q.later ok (Ext.refl S) fun d st z v S' xx ok' es r => by
    obtain ⟨k, rfl, z⟩ := z
    cases r
    exact ⟨k, rfl, z S' xx ok' es⟩⟩
  clear q er ok
  refine tE2 h' fun S x y dx dy env ok er rx ry q => ?_
  cases e : g dx dy with
  | none => rw [e] at q; exact q.elim
  | some d =>
    rw [e] at q
    cases d with
    | bl k =>
      cases k with
      | true =>
        refine hg S x y dx dy _ _ ok rx ry e fun v S1 x1 ok1 e1 r1 => ?_
        cases r1
        refine ⟨true, rfl, ?_⟩
        rw [if_pos rfl]
        have q : outE X.K X.mg W σ S ((fc env S.st).bind fun z st3 => Out.of (g' dy z) st3) _ := q
        refine ⟨S1, env, rfl, ok1, er.ext x1, ?_⟩
        rw [e1]
        refine outE.imp (q.later ok1 x1 fun d st z v S' xx ok' => z v S' (Ext.trans ok1 x1 xx) ok') fun dz st2 q2 z S2 x2 ok2 e2 r2 => ?_
        subst e2
        cases e3 : g' dy dz with
        | none => rw [e3] at q2; exact q2.elim
        | some d3 =>
          rw [e3] at q2
          exact hg' S2 y z dy dz d3 _ ok2 ((ry.ext x1).ext x2) r2 e3 fun v S' xx ok' es => q2 v S' (Ext.trans ok2 x2 xx) ok' es
      | false =>
        refine hg S x y dx dy _ _ ok rx ry e fun v S1 x1 ok1 e1 r1 => ?_
        cases r1
        refine ⟨false, rfl, ?_⟩
        rw [if_neg Bool.false_ne_true]
        exact q (.bl false) S1 x1 ok1 e1 (.bl false)
    | _ => exact (show False from q).elim
/-- a test, then one of two -/
theorem tT_ite {K : PySem.W.Frag} {mg : Str → Option Value} {S0 : Sx} {ft fa fb : Ev} {σ : L2.St} {H : Hp} {q : Sx → Dat → Sto → Prop} {R : Bool → Hp → Prop}
    (h : ∃ S env, S.H = H ∧ SOk K mg S ∧ EnvRep K mg S0 S σ env ∧ outE K mg W σ S (sIte ft fa fb env S.st) (q S))
    (ht : ∀ (S S1 : Sx) (env : Env) (f : Ev), SOk K mg S → SOk K mg S1 → Ext S S1 → EnvRep K mg S0 S1 σ env → outE K mg W σ S (f env S1.st) (q S) → f = fa → R true S1.H)
    (hf : ∀ (S S1 : Sx) (env : Env) (f : Ev), SOk K mg S → SOk K mg S1 → Ext S S1 → EnvRep K mg S0 S1 σ env → outE K mg W σ S (f env S1.st) (q S) → f = fb → R false S1.H) : tT K mg S0 W ft σ H R := by
  obtain ⟨S, env, rfl, ok, er, h⟩ := h
  refine ⟨S, env, rfl, ok, er, outE.imp h fun d st h1 => ?_⟩
  cases d with
  | bl k =>
    refine ⟨k, rfl, fun S1 x1 ok1 e1 => ?_⟩
    subst e1
    cases k with
    | true => exact ht S S1 env fa ok ok1 x1 (er.ext x1) h1 rfl
    | false => exact hf S S1 env fb ok ok1 x1 (er.ext x1) h1 rfl
  | _ => exact (show False from h1).elim
theorem dt_not (h : Dt X W a fa) : Dt X W (.UnaryOp .Not a pos) (s1 dNot fa) := fun S0 => by
  refine ptW (pt_not (h S0)) fun σ H Q q => ?_
  obtain ⟨S, env, rfl, ok, er, q⟩ := q
  refine ⟨S, env, rfl, ok, er, outE.imp q fun d st h1 => ?_⟩
  cases d with
  | bl k =>
    obtain ⟨b, e, z⟩ := h1
    cases e
    exact ⟨k, rfl, z⟩
  | _ => exact (show False from h1).elim
theorem dw_and1 (h : Dt X W a fa) : Dw X W (.BoolOp .And [a] pos) fa := fun S0 => pw_and1 (h S0)
theorem dw_or1 (h : Dt X W a fa) : Dw X W (.BoolOp .Or [a] pos) fa := fun S0 => pw_or1 (h S0)
theorem dw_and (ha : Dt X W a fa) (hb : Dw X W (.BoolOp .And (b :: rest) pos) fb) : Dw X W (.BoolOp .And (a :: b :: rest) pos) (sAnd fa fb) := fun S0 => by
  refine pwW (pw_and (ha S0) (hb S0)) fun σ H Q q => ?_
  refine tT_ite q (fun S S1 env f ok ok1 x er z e => ?_) fun S S1 env f ok ok1 x er z e => ?_
  · subst e
    rw [if_pos rfl]
    exact ⟨S1, env, rfl, ok1, er, z.later ok1 x fun d st ⟨b, eb, w⟩ => ⟨b, eb, fun S' xx => w S' (Ext.trans ok1 x xx)⟩⟩
  · subst e
    rw [if_neg Bool.false_ne_true]
    obtain ⟨b, eb, w⟩ := z
    cases eb
    exact w S1 x ok1 rfl
theorem dw_or (ha : Dt X W a fa) (hb : Dw X W (.BoolOp .Or (b :: rest) pos) fb) : Dw X W (.BoolOp .Or (a :: b :: rest) pos) (sOr fa fb) := fun S0 => by
  refine pwW (pw_or (ha S0) (hb S0)) fun σ H Q q => ?_
  refine tT_ite q (fun S S1 env f ok ok1 x er z e => ?_) fun S S1 env f ok ok1 x er z e => ?_
  · subst e
    rw [if_pos rfl]
    obtain ⟨b, eb, w⟩ := z
    cases eb
    exact w S1 x ok1 rfl
  · subst e
    rw [if_neg Bool.false_ne_true]
    exact ⟨S1, env, rfl, ok1, er, z.later ok1 x fun d st ⟨b, eb, w⟩ => ⟨b, eb, fun S' xx => w S' (Ext.trans ok1 x xx)⟩⟩
theorem Dw.t (h : Dw X W e f) : Dt X W e f := fun S0 => (h S0).pt
theorem d_ite (ht : Dt X W c fc) (ha : De X W a fa) (hb : De X W b fb) : De X W (.IfExp c a b pos) (sIte fc fa fb) := fun S0 => by
  refine peW (pe_ifExp (ht S0) (ha S0) (hb S0)) fun σ H Q q => ?_
  refine tT_ite q (fun S S1 env f ok ok1 x er z e => ?_) fun S S1 env f ok ok1 x er z e => ?_
  · subst e
    rw [if_pos rfl]
    exact ⟨S1, env, rfl, ok1, er, z.later ok1 x fun d st w v S' xx => w v S' (Ext.trans ok1 x xx)⟩
  · subst e
    rw [if_neg Bool.false_ne_true]
    exact ⟨S1, env, rfl, ok1, er, z.later ok1 x fun d st w v S' xx => w v S' (Ext.trans ok1 x xx)⟩
/-- and, or, not as values -/
theorem tE_ite {K : PySem.W.Frag} {mg : Str → Option Value} {S0 : Sx} {ft fa fb : Ev} {σ : L2.St} {H : Hp} {Q : VK} {R : V → Hp → Prop}
    (h : tE K mg S0 W (sIte ft fa fb) σ H Q)
    (ht : ∀ (S1 : Sx), tE K mg S0 W fa σ S1.H Q → R (.bl true) S1.H) (hf : ∀ (S1 : Sx), tE K mg S0 W fb σ S1.H Q → R (.bl false) S1.H) : tE K mg S0 W ft σ H R := by
  obtain ⟨S, env, rfl, ok, er, h⟩ := h
  refine ⟨S, env, rfl, ok, er, outE.imp h fun d st h1 v S1 x1 ok1 e1 r1 => ?_⟩
  subst e1
  cases d with
  | bl k =>
    cases r1
    cases k with
    | true => exact ht S1 ⟨S1, env, rfl, ok1, er.ext x1, h1.later ok1 x1 fun d st w v S' xx => w v S' (Ext.trans ok1 x1 xx)⟩
    | false => exact hf S1 ⟨S1, env, rfl, ok1, er.ext x1, h1.later ok1 x1 fun d st w v S' xx => w v S' (Ext.trans ok1 x1 xx)⟩
  | _ => exact (show False from h1).elim
theorem d_one {op} (h : De X W a fa) : De X W (.BoolOp op [a] pos) fa := fun S0 => pe_one (h S0)
theorem d_and (ha : De X W a fa) (hb : De X W (.BoolOp .And (b :: rest) pos) fb) : De X W (.BoolOp .And (a :: b :: rest) pos) (sAnd fa fb) := fun S0 => by
  refine peW (pe_and (ha S0) (hb S0)) fun σ H Q q => tE_ite q (fun S1 z => ⟨true, rfl, by rw [if_pos rfl]; exact z⟩) fun S1 z => ⟨false, rfl, ?_⟩
  rw [if_neg Bool.false_ne_true]
  obtain ⟨S, env, e, ok, er, z⟩ := z
  rw [← e]
  exact z (.bl false) S (Ext.refl S) ok rfl (.bl false)
theorem d_or (ha : De X W a fa) (hb : De X W (.BoolOp .Or (b :: rest) pos) fb) : De X W (.BoolOp .Or (a :: b :: rest) pos) (sOr fa fb) := fun S0 => by
  refine peW (pe_or (ha S0) (hb S0)) fun σ H Q q => tE_ite q (fun S1 z => ⟨true, rfl, ?_⟩) fun S1 z => ⟨false, rfl, by rw [if_neg Bool.false_ne_true]; exact z⟩
  rw [if_pos rfl]
  obtain ⟨S, env, e, ok, er, z⟩ := z
  rw [← e]
  exact z (.bl true) S (Ext.refl S) ok rfl (.bl true)
theorem d_not (ha : De X W a fa) : De X W (.UnaryOp .Not a pos) (s1 dNot fa) := fun S0 => by
  refine peW (pe_not (ha S0)) fun σ H Q q => ?_
  obtain ⟨S, env, rfl, ok, er, q⟩ := q
  refine ⟨S, env, rfl, ok, er, q.imp fun dx st1 q1 x S1 x1 ok1 e1 r1 => ?_⟩
  cases dx with
  | bl k =>
    cases r1
    exact ⟨k, rfl, q1 (.bl (!k)) S1 x1 ok1 e1 (.bl _)⟩
  | _ => exact (show False from q1).elim
def sNil : EvL := fun _ st => .ok [] st
def sCons (fa : Ev) (fr : EvL) : EvL := fun env st => (fa env st).bind fun d st1 => (fr env st1).bind fun ds st2 => .ok (d :: ds) st2
def few (ds : List Dat) : Bool := decide (ds.length ≤ 10000)
def sTup (fl : EvL) : Ev := fun env st => (fl env st).bind fun ds st1 => if few ds then .ok (.tup ds) st1 else .bad
def sLst (fl : EvL) : Ev := fun env st => (fl env st).bind fun ds st1 => if few ds then .ok (.lst ds) st1 else .bad
theorem few_le {ds : List Dat} (h : few ds = true) : ds.length ≤ sizeLine := by
  have := of_decide_eq_true h
  rw [sizeLine_eq]
  omega
variable {es : List Expr} {fl : EvL}
theorem da_nil : Des X W [] sNil := fun S0 => by
  refine paW pa_nil fun σ H Q q => ?_
  obtain ⟨S, env, rfl, ok, er, q⟩ := q
  exact q [] S (Ext.refl S) ok rfl .nil
theorem da_cons (ha : De X W e fa) (hr : Des X W es fl) (hs : starEach (e :: es) X.env = (false, eval e X.env) :: starEach es X.env := by rfl) : Des X W (e :: es) (sCons fa fl) := fun S0 => by
  refine paW (pa_cons (ha S0) (hr S0) hs) fun σ H Q q => ?_
  obtain ⟨S, env, rfl, ok, er, q⟩ := q
  refine ⟨S, env, rfl, ok, er, q.imp fun dx st1 q1 x S1 x1 ok1 e1 r1 => ?_⟩
  subst e1
  refine ⟨S1, env, rfl, ok1, er.ext x1, outE.imp (q1.later ok1 x1 fun d st z v S' xx ok' => z v S' (Ext.trans ok1 x1 xx) ok') fun ds st2 q2 vs S2 x2 ok2 e2 r2 => ?_⟩
  exact q2 (x :: vs) S2 x2 ok2 e2 (.cons (r1.ext x2) r2)
theorem sqT_put {K : PySem.W.Frag} {G : Hp} {p : Addr} {vs : List V} : SqT K (upd G p (.tup vs)) p vs := .inl (.inl upd_same)
theorem sqL_put {K : PySem.W.Frag} {G : Hp} {p : Addr} {vs : List V} : SqL K (upd G p (.lst vs)) p vs := .inl (.inl upd_same)
/-- a new tuple, a new list -/
theorem newT {K : PySem.W.Frag} {mg : Str → Option Value} {S : Sx} {vs : List V} {ds : List Dat} {p : Addr} (ok : SOk K mg S) (r : RepSL K mg S vs ds) (h : S.H p = none) : RepS K mg (S.put p (.tup vs)) (.ref p) (.tup ds) :=
  .tup sqT_put (r.ext (Ext.put ok h _))
theorem sq_of {K : PySem.W.Frag} {G : Hp} {a : Addr} {vs : List V} (h : G a = some (.lst vs)) : SqL K G a vs := .inl (.inl h)
theorem newL {K : PySem.W.Frag} {mg : Str → Option Value} {S : Sx} {vs : List V} {ds : List Dat} {p : Addr} (ok : SOk K mg S) (r : RepSL K mg S vs ds) (h : S.H p = none) : RepS K mg (S.put p (.lst vs)) (.ref p) (.lst ds) :=
  .lst upd_same (r.ext (Ext.put ok h _))
theorem d_tup {k} (h : Des X W es fl) : De X W (.Tuple es k pos) (sTup fl) := fun S0 => by
  refine peW (pe_tup (h S0)) fun σ H Q q => ?_
  obtain ⟨S, env, rfl, ok, er, q⟩ := q
  refine ⟨S, env, rfl, ok, er, q.imp fun ds st1 q1 vs S1 x1 ok1 e1 r1 => ?_⟩
  subst e1
  by_cases z : few ds = true
  · rw [if_pos z] at q1
    exact ⟨by rw [r1.length]; exact few_le z, fun p hp => q1 (.ref p) (S1.put p (.tup vs)) (Ext.trans ok1 x1 (Ext.put ok1 hp _)) (ok1.put hp _) rfl (newT ok1 r1 hp)⟩
  · rw [if_neg z] at q1
    exact q1.elim
theorem d_lst (h : Des X W es fl) : De X W (.List es pos) (sLst fl) := fun S0 => by
  refine peW (pe_lst (h S0)) fun σ H Q q => ?_
  obtain ⟨S, env, rfl, ok, er, q⟩ := q
  refine ⟨S, env, rfl, ok, er, q.imp fun ds st1 q1 vs S1 x1 ok1 e1 r1 => ?_⟩
  subst e1
  by_cases z : few ds = true
  · rw [if_pos z] at q1
    exact ⟨by rw [r1.length]; exact few_le z, fun p hp => q1 (.ref p) (S1.put p (.lst vs)) (Ext.trans ok1 x1 (Ext.put ok1 hp _)) (ok1.put hp _) rfl (newL ok1 r1 hp)⟩
  · rw [if_neg z] at q1
    exact q1.elim
end
end GI
set_option Elab.async false
set_option linter.all false
set_option maxRecDepth 100000
set_option maxHeartbeats 2000000
namespace GI
open PySem PySem.Spec PyProof.Rows L2
def sSeq (f g : Exe) : Exe := fun env st => match f env st with
  | .nx env' st' => g env' st'
  | o => o
def sSkip : Exe := fun env st => .nx env st
def sBreak : Exe := fun env st => .bk env st
def sCont : Exe := fun env st => .ct env st
def Out.go {α : Type} (o : Out α) (env : Env) (k : α → Sto → SOut) : SOut := match o with
  | .ok d st => k d st
  | .ex c fs st => .ex c fs env st
  | .bad => .bad
def sAsg (i : Nat) (f : Ev) : Exe := fun env st => (f env st).go env fun d st1 => .nx (env.set i (some (.sh d))) st1
def sRet (f : Ev) : Exe := fun env st => (f env st).go env fun d st1 => .rt d st1
def sRetN : Exe := fun _ st => .rt .non st
def sDo (f : Ev) : Exe := fun env st => (f env st).go env fun _ st1 => .nx env st1
def sIf (ft : Ev) (f g : Exe) : Exe := fun env st => (ft env st).go env fun d st1 => match d with
  | .bl true => f env st1
  | .bl false => g env st1
  | _ => .bad
def sBad : Exe := fun _ _ => .bad
theorem tS_eq {K : PySem.W.Frag} {mg : Str → Option Value} {S0 : Sx} {W : WX} {f : Exe} {D : Ends} {σ : L2.St} {H : Hp} : tS K mg S0 W f D σ H = ∃ S env, S.H = H ∧ SOk K mg S ∧ EnvRep K mg S0 S σ env ∧ Ext S0 S ∧ outS K mg S0 S W D (f env S.st) := rfl
section
variable {X : Cx} {W : WX} {a b c e : Expr} {fa fb fc f : Ev} {pos : Pos} {st : Stmt} {rest body orelse : List Stmt} {g h : Exe}
/-- an expression, then what follows in a statement -/
theorem outS.of {K : PySem.W.Frag} {mg : Str → Option Value} {α : Type} {S0 S : Sx} {W : WX} {D : Ends} {o : Out α} {env : Env} {σ : L2.St} {k : α → Sto → SOut} {q : α → Sto → Prop} (ok : SOk K mg S) (er : EnvRep K mg S0 S σ env) (x0 : Ext S0 S)
    (h : outS K mg S0 S W D (o.go env k)) (hk : ∀ d st, outS K mg S0 S W D (k d st) → q d st) : outE K mg W σ S o q := by
  cases o with
  | ok d st => exact hk d st h
  | ex c fs st => exact fun S' cls dx x ok' es r => h σ S' cls dx ok' ⟨Ext.trans ok x0 x, x.gx⟩ es (er.ext x) r
  | bad => exact h
theorem outS.later {K : PySem.W.Frag} {mg : Str → Option Value} {S0 S S2 : Sx} {W : WX} {D : Ends} {o : SOut} (h : outS K mg S0 S W D o) (g : Gx S S2) : outS K mg S0 S2 W D o := by
  cases o with
  | nx env st => exact fun σ' S' ok x es er => h σ' S' ok ⟨x.x, g.trans x.g⟩ es er
  | bk env st => exact fun σ' S' ok x es er => h σ' S' ok ⟨x.x, g.trans x.g⟩ es er
  | ct env st => exact fun σ' S' ok x es er => h σ' S' ok ⟨x.x, g.trans x.g⟩ es er
  | rt d st => exact fun v S' ok x es r => h v S' ok ⟨x.x, g.trans x.g⟩ es r
  | ex c fs env st => exact fun σ' S' cls dx ok x es er r => h σ' S' cls dx ok ⟨x.x, g.trans x.g⟩ es er r
  | bad => exact h
theorem ds_nil : Dss X W [] sSkip := fun S0 => by
  refine pssW pss_nil fun D σ H q => ?_
  obtain ⟨S, env, rfl, ok, er, x, q⟩ := q
  exact q σ S ok ⟨x, Gx.refl S⟩ rfl er
theorem ds_cons (h1 : Ds X W st g) (h2 : Dss X W rest h) : Dss X W (st :: rest) (sSeq g h) := fun S0 => by
  refine pssW (pss_cons (h1 S0) (h2 S0)) fun D σ H q => ?_
  rw [tS_eq] at q
  obtain ⟨S, env, rfl, ok, er, x, q⟩ := q
  refine ⟨S, env, rfl, ok, er, x, ?_⟩
  unfold sSeq at q
  cases e : g env S.st with
  | nx env' st' =>
    rw [e] at q
    intro σ' S' ok' x' es er'
    subst es
    exact ⟨S', env', rfl, ok', er', x'.x, q.later x'.g⟩
  | rt d st' => rw [e] at q; exact q
  | bk env' st' => rw [e] at q; exact q
  | ct env' st' => rw [e] at q; exact q
  | ex c fs env' st' => rw [e] at q; exact q
  | bad => rw [e] at q; exact q
theorem ds_one (h1 : Ds X W st g) : Dss X W [st] g := fun S0 => pss_one (h1 S0)
theorem ds_pass : Ds X W (.Pass pos) sSkip := fun S0 => by
  refine psW ps_pass fun D σ H q => ?_
  obtain ⟨S, env, rfl, ok, er, x, q⟩ := q
  exact q σ S ok ⟨x, Gx.refl S⟩ rfl er
theorem ds_break : Ds X W (.Break pos) sBreak := fun S0 => by
  refine psW ps_break fun D σ H q => ?_
  obtain ⟨S, env, rfl, ok, er, x, q⟩ := q
  exact q σ S ok ⟨x, Gx.refl S⟩ rfl er
theorem ds_cont : Ds X W (.Continue pos) sCont := fun S0 => by
  refine psW ps_continue fun D σ H q => ?_
  obtain ⟨S, env, rfl, ok, er, x, q⟩ := q
  exact q σ S ok ⟨x, Gx.refl S⟩ rfl er
/-- code that is never reached -/
theorem ds_bad : Ds X W st sBad := fun S0 => by
  refine psW ps_never fun D σ H q => ?_
  obtain ⟨S, env, rfl, ok, er, x, q⟩ := q
  exact q
theorem ds_ret (he : De X W e f) : Ds X W (.Return (some e) pos) (sRet f) := fun S0 => by
  refine psW (ps_ret (he S0)) fun D σ H q => ?_
  rw [tS_eq] at q
  obtain ⟨S, env, rfl, ok, er, x, q⟩ := q
  exact ⟨S, env, rfl, ok, er, outS.of ok er x q fun d st z v S' xx ok' es r => z v S' ok' ⟨Ext.trans ok x xx, xx.gx⟩ es r⟩
theorem ds_retN : Ds X W (.Return none pos) sRetN := fun S0 => by
  refine psW ps_retN fun D σ H q => ?_
  obtain ⟨S, env, rfl, ok, er, x, q⟩ := q
  exact q .non S ok ⟨x, Gx.refl S⟩ rfl .non
theorem ds_expr (he : De X W e f) (hs : swapsWith e none pos.line X.env = pure false := by rfl) : Ds X W (.Expr e pos) (sDo f) := fun S0 => by
  refine psW (ps_expr (he S0) hs) fun D σ H q => ?_
  rw [tS_eq] at q
  obtain ⟨S, env, rfl, ok, er, x, q⟩ := q
  exact ⟨S, env, rfl, ok, er, outS.of ok er x q fun d st z v S' xx ok' es r => z σ S' ok' ⟨Ext.trans ok x xx, xx.gx⟩ es (er.ext xx)⟩
theorem ds_set {i : Nat} {x : Str} {pos' : Pos} (hN : X.N.Nodup) (hi : X.N[i]? = some x) (hx : Loc X.env.scope x) (he : De X W e f) (hs : swapsWith e (some (.Name x pos')) pos.line X.env = pure false := by rfl)
    (hf : X.fn x = true ∨ X.env.scope.names.lookup x = some .local := by first | exact .inl rfl | exact .inr rfl | assumption) : Ds X W (.Assign [.Name x pos'] e pos) (sAsg i f) := fun S0 => by
  refine psW (ps_set hN hi hx (he S0) hs hf) fun D σ H q => ?_
  rw [tS_eq] at q
  obtain ⟨S, env, rfl, ok, er, x, q⟩ := q
  exact ⟨S, env, rfl, ok, er, outS.of ok er x q fun d st z v S' xx ok' es r => z (σ.set i (some v)) S' ok' ⟨Ext.trans ok x xx, xx.gx⟩ es ((er.ext xx).set i r)⟩
theorem ds_if (ht : Dt X W c fc) (ha : Dss X W body g) (hb : Dss X W orelse h) : Ds X W (.If c body orelse pos) (sIf fc g h) := fun S0 => by
  refine psW (ps_if (ht S0) (ha S0) (hb S0)) fun D σ H q => ?_
  rw [tS_eq] at q
  obtain ⟨S, env, rfl, ok, er, x, q⟩ := q
  refine ⟨S, env, rfl, ok, er, outS.of ok er x q fun d st z => ?_⟩
  cases d with
  | bl k =>
    refine ⟨k, rfl, fun S' xx ok' es => ?_⟩
    subst es
    cases k with
    | true =>
      rw [if_pos rfl]
      exact ⟨S', env, rfl, ok', er.ext xx, Ext.trans ok x xx, outS.later z xx.gx⟩
    | false =>
      rw [if_neg Bool.false_ne_true]
      exact ⟨S', env, rfl, ok', er.ext xx, Ext.trans ok x xx, outS.later z xx.gx⟩
  | _ => exact (show False from z).elim
/-- behind a loop's body -/
def loopO (o : SOut) (k : Env → Sto → SOut) : SOut := match o with
  | .nx env st => k env st
  | .ct env st => k env st
  | .bk env st => .nx env st
  | o => o
theorem outS.loop {K : PySem.W.Frag} {mg : Str → Option Value} {S0 S : Sx} {W : WX} {D : Ends} {o : SOut} {k : Env → Sto → SOut} {N : L2.St → Hp → Prop} (h : outS K mg S0 S W D (loopO o k))
    (hN : ∀ env' σ' S', SOk K mg S' → Go S0 S S' → EnvRep K mg S0 S' σ' env' → outS K mg S0 S' W D (k env' S'.st) → N σ' S'.H) : outS K mg S0 S W { D with nx := N, ct := N, bk := D.nx } o := by
  cases o with
  | nx env st =>
    intro σ' S' ok x es er
    subst es
    exact hN env σ' S' ok x er (outS.later h x.g)
  | ct env st =>
    intro σ' S' ok x es er
    subst es
    exact hN env σ' S' ok x er (outS.later h x.g)
  | bk env st => exact h
  | rt d st => exact h
  | ex c fs env st => exact h
  | bad => exact h
def sWhile (ft : Ev) (fb : Exe) : Nat → Exe
  | 0 => fun _ _ => .bad
  | n + 1 => fun env st => (ft env st).go env fun d st1 => match d with
    | .bl true => loopO (fb env st1) (sWhile ft fb n)
    | .bl false => .nx env st1
    | _ => .bad
theorem ds_while (n : Nat) (hp : PassesOwn (model X.prog X.w) X.A X.env X.xe) (ht : Dt X W c fc) (hb : Dss X W body g) : Ds X W (.While c body [] pos) (sWhile fc g n) := fun S0 => by
  refine psW (ps_while hp (ht S0) (hb S0)) fun D σ H q => ?_
  rw [tS_eq] at q
  obtain ⟨S, env, rfl, ok, er, x, q⟩ := q
  refine ⟨fun m σ H => ∃ S env, S.H = H ∧ SOk X.K X.mg S ∧ EnvRep X.K X.mg S0 S σ env ∧ Ext S0 S ∧ outS X.K X.mg S0 S W D (sWhile fc g m env S.st), ⟨n, S, env, rfl, ok, er, x, q⟩, ?_⟩
  rintro m σ H ⟨S, env, rfl, ok, er, x, q⟩
  cases m with
  | zero => exact (show False from q).elim
  | succ m =>
    refine ⟨S, env, rfl, ok, er, outS.of ok er x q fun d st z => ?_⟩
    cases d with
    | bl k =>
      refine ⟨k, rfl, fun S' xx ok' es => ?_⟩
      subst es
      cases k with
      | true =>
        rw [if_pos rfl]
        refine ⟨fun σ H => ∃ S env, S.H = H ∧ SOk X.K X.mg S ∧ EnvRep X.K X.mg S0 S σ env ∧ Ext S0 S ∧ outS X.K X.mg S0 S W D (sWhile fc g m env S.st), fun σ' H' hh => ⟨m, Nat.lt_succ_self m, hh⟩, ?_⟩
        rw [tS_eq]
        exact ⟨S', env, rfl, ok', er.ext xx, Ext.trans ok x xx, outS.loop (outS.later z xx.gx) fun env' σ' S2 ok2 x2 er2 z2 => ⟨S2, env', rfl, ok2, er2, x2.x, z2⟩⟩
      | false =>
        rw [if_neg Bool.false_ne_true]
        exact z σ S' ok' ⟨Ext.trans ok x xx, xx.gx⟩ rfl (er.ext xx)
    | _ => exact (show False from z).elim
/-- what a target binds -/
abbrev Tg := Dat → Option (List (Nat × Dat))
abbrev Tgs := List Dat → Option (List (Nat × Dat))
def tgName (i : Nat) : Tg := fun d => some [(i, d)]
def tgNil : Tgs := fun ds => match ds with
  | [] => some []
  | _ => none
def tgCons (t : Tg) (u : Tgs) : Tgs := fun ds => match ds with
  | d :: r => (t d).bind fun b => (u r).bind fun c => some (b ++ c)
  | [] => none
def tgTup (u : Tgs) : Tg := fun d => match d with
  | .tup ds => u ds
  | _ => none
def setE : Env → List (Nat × Dat) → Env
  | env, [] => env
  | env, (i, d) :: r => setE (env.set i (some (.sh d))) r
def setV : L2.St → List (Nat × V) → L2.St
  | σ, [] => σ
  | σ, (i, v) :: r => setV (σ.set i (some v)) r
def PB (K : PySem.W.Frag) (mg : Str → Option Value) (S : Sx) : List (Nat × V) → List (Nat × Dat) → Prop := Paired fun (p : Nat × V) (q : Nat × Dat) => p.1 = q.1 ∧ RepS K mg S p.2 q.2
theorem PB.append {K : PySem.W.Frag} {mg : Str → Option Value} {S : Sx} : ∀ {a b : List (Nat × V)} {c d : List (Nat × Dat)}, PB K mg S a c → PB K mg S b d → PB K mg S (a ++ b) (c ++ d)
  | _, _, _, _, .nil, q => q
  | _, _, _, _, .cons h t, q => .cons h (PB.append t q)
theorem setV_append : ∀ (σ : L2.St) (a b : List (Nat × V)), setV (setV σ a) b = setV σ (a ++ b)
  | _, [], _ => rfl
  | σ, (i, v) :: r, b => setV_append (σ.set i (some v)) r b
theorem EnvRep.setAll {K : PySem.W.Frag} {mg : Str → Option Value} {S0 S : Sx} : ∀ {a : List (Nat × V)} {c : List (Nat × Dat)} {σ : L2.St} {env : Env}, EnvRep K mg S0 S σ env → PB K mg S a c → EnvRep K mg S0 S (setV σ a) (setE env c)
  | _, _, _, _, er, .nil => er
  | (i, v) :: a, (j, d) :: c, σ, env, er, .cons h t => by
    obtain ⟨e, r⟩ := h
    have e : i = j := e
    subst e
    exact EnvRep.setAll (σ := σ.set i (some v)) (env := env.set i (some (.sh d))) (er.set i r) t
/-- a target's reading on data -/
def gT (K : PySem.W.Frag) (mg : Str → Option Value) (t : Tg) : TG := fun v σ H Q => ∃ S d bs, S.H = H ∧ SOk K mg S ∧ RepS K mg S v d ∧ t d = some bs ∧ ∀ vbs, PB K mg S vbs bs → Q (setV σ vbs) H
def gTs (K : PySem.W.Frag) (mg : Str → Option Value) (t : Tgs) : TGs := fun vs σ H Q => ∃ S ds bs, S.H = H ∧ SOk K mg S ∧ RepSL K mg S vs ds ∧ t ds = some bs ∧ ∀ vbs, PB K mg S vbs bs → Q (setV σ vbs) H
def Dg (X : Cx) (tg : Expr) (t : Tg) : Prop := PG X tg (gT X.K X.mg t)
def Dgs (X : Cx) (tgs : List Expr) (t : Tgs) (n : Nat) : Prop := (∀ ds bs, t ds = some bs → ds.length = n) ∧ PGs X tgs (gTs X.K X.mg t)
theorem pgW {tg : Expr} {t t' : TG} (h : PG X tg t) (i : ∀ v σ H Q, t' v σ H Q → t v σ H Q) : PG X tg t' := ⟨fun pins s σ H v u Q I r q => h.run pins s σ H v u Q I r (i v σ H Q q)⟩
theorem pgsW {tgs : List Expr} {t t' : TGs} (h : PGs X tgs t) (i : ∀ v σ H Q, t' v σ H Q → t v σ H Q) : PGs X tgs t' := ⟨fun pins s σ H v u Q I r q => h.run pins s σ H v u Q I r (i v σ H Q q)⟩
theorem dg_name {i : Nat} {x : Str} (hN : X.N.Nodup) (hi : X.N[i]? = some x) (hx : Loc X.env.scope x) (hf : X.fn x = true ∨ X.env.scope.names.lookup x = some .local := by first | exact .inl rfl | exact .inr rfl | assumption) : Dg X (.Name x pos) (tgName i) := by
  refine pgW (pg_name hN hi hx hf) fun v σ H Q q => ?_
  obtain ⟨S, d, bs, rfl, ok, r, e, q⟩ := q
  cases e
  exact q [(i, v)] (.cons ⟨rfl, r⟩ .nil)
theorem dgs_nil : Dgs X [] tgNil 0 := by
  refine ⟨fun ds bs e => ?_, pgsW pgs_nil fun vs σ H Q q => ?_⟩
  · cases ds with
    | nil => rfl
    | cons _ _ => cases e
  · obtain ⟨S, ds, bs, rfl, ok, r, e, q⟩ := q
    cases r with
    | nil =>
      cases e
      exact ⟨rfl, q [] .nil⟩
    | cons _ _ => cases e
theorem tgCons_some {t : Tg} {u : Tgs} {ds : List Dat} {bs : List (Nat × Dat)} (h : tgCons t u ds = some bs) : ∃ d r b c, ds = d :: r ∧ t d = some b ∧ u r = some c ∧ bs = b ++ c := by
  cases ds with
  | nil => cases h
  | cons d r =>
    have h : (t d).bind (fun b => (u r).bind fun c => some (b ++ c)) = some bs := h
    cases e1 : t d with
    | none => rw [e1] at h; cases h
    | some b =>
      rw [e1] at h
      cases e2 : u r with
      | none => rw [e2] at h; cases h
      | some c =>
        rw [e2] at h
        cases h
        exact ⟨d, r, b, c, rfl, e1, e2, rfl⟩
theorem dgs_cons {es : List Expr} {t : Tg} {u : Tgs} {n : Nat} (h1 : Dg X e t) (h2 : Dgs X es u n) (hs : (assignEach (e :: es) X.env).map (·.2) = assign e X.env :: (assignEach es X.env).map (·.2) := by rfl) : Dgs X (e :: es) (tgCons t u) (n + 1) := by
  obtain ⟨l2, p2⟩ := h2
  refine ⟨fun ds bs e => ?_, pgsW (pgs_cons h1 p2 hs) fun vs σ H Q q => ?_⟩
  · obtain ⟨d, r, b, c, rfl, _, e2, _⟩ := tgCons_some e
    simp [l2 r c e2]
  · obtain ⟨S, ds, bs, rfl, ok, r, e, q⟩ := q
    obtain ⟨d, r', b, c, rfl, e1, e2, rfl⟩ := tgCons_some e
    cases r with
    | cons rv rr =>
      rename_i v vs'
      refine ⟨v, vs', rfl, S, d, b, rfl, ok, rv, e1, fun vb pb => ⟨S, r', c, rfl, ok, rr, e2, fun vc pc => ?_⟩⟩
      rw [setV_append]
      exact q _ (pb.append pc)
theorem sqT_H {K : PySem.W.Frag} {mg : Str → Option Value} {S : Sx} {a : Addr} {vs : List V} (ok : SOk K mg S) (h : SqT K S.G a vs) : SqT K S.H a vs := sqT_mono ok.sub h
theorem sqL_H {K : PySem.W.Frag} {mg : Str → Option Value} {S : Sx} {a : Addr} {vs : List V} (ok : SOk K mg S) (h : SqL K S.G a vs) : SqL K S.H a vs := sqL_mono ok.sub h
theorem dg_tup {es : List Expr} {u : Tgs} {n k : Nat} (hc : X.calm = true) (h : Dgs X es u n) (hn : (assignEach es X.env).length = n := by rfl) (hst : (assignEach es X.env).findIdx? (·.1) = none := by rfl) : Dg X (.Tuple es k pos) (tgTup u) := by
  obtain ⟨l, p⟩ := h
  refine pgW (pg_tup hc p hn hst) fun v σ H Q q => ?_
  obtain ⟨S, d, bs, rfl, ok, r, e, q⟩ := q
  cases r with
  | tup hs hr => exact ⟨_, _, rfl, sqT_H ok hs, by rw [hr.length]; exact l _ _ e, S, _, bs, rfl, ok, hr, e, q⟩
  | _ => cases e
/-- target = e -/
def sAsgT (t : Tg) (f : Ev) : Exe := fun env st => (f env st).go env fun d st1 => match t d with
  | some bs => .nx (setE env bs) st1
  | none => .bad
theorem ds_asg {tg : Expr} {t : Tg} (he : De X W e f) (hg : Dg X tg t) (hs : swapsWithSole [tg] e pos.line X.env = pure false := by rfl) (hw : swappedStores [tg] e X.env = pure none := by rfl)
    (h1 : (assignEach [tg] X.env).map (·.2) = [assign tg X.env] := by rfl) : Ds X W (.Assign [tg] e pos) (sAsgT t f) := fun S0 => by
  refine psW (ps_asg (he S0) hg hs hw h1) fun D σ H q => ?_
  rw [tS_eq] at q
  obtain ⟨S, env, rfl, ok, er, x, q⟩ := q
  refine ⟨S, env, rfl, ok, er, outS.of ok er x q fun d st z v S' xx ok' es r => ?_⟩
  cases e1 : t d with
  | none => rw [e1] at z; exact z.elim
  | some bs =>
    rw [e1] at z
    exact ⟨S', d, bs, rfl, ok', r, e1, fun vbs pb => z _ S' ok' ⟨Ext.trans ok x xx, xx.gx⟩ es ((er.ext xx).setAll pb)⟩
end
end GI
set_option Elab.async false
set_option linter.all false
set_option maxRecDepth 100000
set_option maxHeartbeats 2000000
namespace PySem
open PySem
set_option maxHeartbeats 1000000 in
theorem giMeetsEnumT (l : Addr) (items : Array Value) (n : Nat) (dct : Option Addr) (sl : Array (Option Value)) :
    Meets (Builtin.«enumerate.__new__» ⟨[.type "enumerate", .ref l], []⟩) (fun _ R s => s.heap.get? l = some { cls := .type "tuple", dict := dct, data := .seq items n, slots := sl } ∧
      R (.ok (.ret (.ref (s.heap.push { cls := .type "tuple_iterator", data := .fields #[.ref l, .int 0 0] }).objs.size)))
        { s with heap := (s.heap.push { cls := .type "tuple_iterator", data := .fields #[.ref l, .int 0 0] }).push { cls := .type "enumerate", data := .fields #[.none, .bool false, .ref s.heap.objs.size, rawInt 0, .none, .none] } }) :=
  .of_wp fun prog w A R s h => by
    obtain ⟨hl, h⟩ := h
    obtain ⟨hp, g, d, tk, os⟩ := s
    have hsub := sub_enumerate
    have hT : hp.IsTuple l items := ⟨_, hl, rfl, n, rfl⟩
    wp_walk
    refine wpAny_stack_any fun st => wpAny_pure ?_
    split
    · rename_i c _ _ _ _ _
      cases (c == Value.type "enumerate")
      · wp_walk using wpAny_loadPart' hl, wpAny_pyIter_tuple hT
        exact ⟨_, rfl, h⟩
      · wp_walk using wpAny_loadPart' hl, wpAny_pyIter_tuple hT
        exact ⟨_, rfl, h⟩
    · wp_walk using wpAny_loadPart' hl, wpAny_pyIter_tuple hT
      exact ⟨_, rfl, h⟩
theorem giEnumT {prog : Program} {w : World} {A : Around} {E : Value → Shared → Prop} {s : Shared} {l : Addr} {items : Array Value} {Q : Value → Shared → Prop} (hL : s.heap.IsTuple l items)
    (h : ∀ h', IsEnum h' (s.heap.objs.size + 1) s.heap.objs.size 0 .none → h'.IsTupleIter s.heap.objs.size l 0 → h'.objs.size = s.heap.objs.size + 2 →
      (∀ b o, s.heap.get? b = some o → h'.get? b = some o) → Q (.ref (s.heap.objs.size + 1)) { s with heap := h' }) :
    wpAny (model prog w) A (call (.type "enumerate") [.ref l]) Q E s := by
  obtain ⟨⟨c, dct, dt, sl⟩, hl, hc, n, hd⟩ := hL
  replace hc : c = .type "tuple" := hc
  replace hd : dt = .seq items n := hd
  subst hc hd
  refine callType_new F.called_enumerate (by decide) (F.typeCall_enumerate_1 _) (F.newCall_enumerate_1 _) (fun obj => F.args_object_init_2 obj _) F.entry_enumerate_new
    (giMeetsEnumT l items n dct sl) ⟨hl, ?_⟩
  have hz : (s.heap.push { cls := .type "tuple_iterator", data := .fields #[.ref l, .int 0 0] }).objs.size = s.heap.objs.size + 1 := Heap.size_push ..
  show _ ∧ _
  rw [hz]
  have he : IsEnum ((s.heap.push { cls := .type "tuple_iterator", data := .fields #[.ref l, .int 0 0] }).push
      { cls := .type "enumerate", data := .fields #[.none, .bool false, .ref s.heap.objs.size, rawInt 0, .none, .none] }) (s.heap.objs.size + 1) s.heap.objs.size 0 .none := by
    have := Heap.get?_push_size (s.heap.push { cls := .type "tuple_iterator", data := .fields #[.ref l, .int 0 0] })
      (o := { cls := .type "enumerate", data := .fields #[.none, .bool false, .ref s.heap.objs.size, rawInt 0, .none, .none] }) rfl
    rw [hz] at this; exact this
  refine ⟨⟨_, he, rfl⟩, h _ he ⟨_, Heap.get?_push_of_some _ (Heap.get?_push_size _ rfl), rfl, rfl⟩ (by rw [Heap.size_push, hz]) fun b o x => Heap.get?_push_of_some _ (Heap.get?_push_of_some _ x)⟩
end PySem
namespace GI
open PySem PySem.Spec PyProof.Rows L2
def IteT (K : PySem.W.Frag) (a : Addr) : It :=
  ⟨fun i H => ∃ (xs : List V) (x : V), SqT K H a xs ∧ xs[i]? = some x, fun i H v H' => ∃ T x, v = .ref T ∧ H T = none ∧ H' = upd H T (.tup [.int (i : Nat), x]) ∧ ∀ xs, SqT K H a xs → xs[i]? = some x, fun i H => ∃ xs : List V, SqT K H a xs ∧ xs.length = i⟩
theorem turn_enumT {P : Program} {w : World} {K : PySem.W.Frag} {elts : List Expr} {kk : Nat} {tpos : Pos} (a e it : Addr) :
    Turn P w K (.Tuple elts kk tpos) (IteT K a) [e, it] e (fun i h => (∃ old, IsEnum h e it ((i : Nat) : Int) old) ∧ h.IsTupleIter it a i ∧ e ≠ it) where
  mem := by simp
  obj := fun i h st b hb => by
    obtain ⟨⟨old, he⟩, ⟨o, ho, hc, hd⟩, _⟩ := st
    have e' : b = e ∨ b = it := by simpa using hb
    rcases e' with z | z
    · rw [z]; exact ⟨_, he, fun v q => nomatch q⟩
    · rw [z]; exact ⟨o, ho, fun v q => by rw [hd] at q; cases q⟩
  keep := fun i h h' st k => let ⟨⟨old, he⟩, hi, hne⟩ := st; ⟨⟨old, k e (by simp) _ he⟩, hi.at fun o q => k it (by simp) o q, hne⟩
  item := by
    intro X hP hw hK hc i pins s σ H E I hf st hg
    subst hP hw hK
    obtain ⟨⟨old, he⟩, hit, hne⟩ := st
    obtain ⟨xs, x, hq, hx⟩ := hg
    obtain ⟨its, rv, p, hz⟩ := I.tuple hq
    obtain ⟨u, hu, ru⟩ := rv.get hx
    have hel : e < s.heap.objs.size := Heap.lt_size he
    have hil : it < s.heap.objs.size := by obtain ⟨_, q, _⟩ := hit; exact Heap.lt_size q
    have hP : s.heap.IsTuple a its.toArray := p
    have hai : a ≠ it := by
      intro z
      obtain ⟨o, q1, q2, _⟩ := hit
      obtain ⟨o', q3, q4, _⟩ := hP
      rw [z, q1] at q3
      cases q3
      rw [q2] at q4
      exact absurd q4 (by decide)
    have hae : e ≠ a := by
      intro z
      obtain ⟨o', q3, q4, _⟩ := hP
      have he' : s.heap.get? e = some _ := he
      rw [z, q3] at he'
      cases he'
      exact absurd (show Value.type "enumerate" = Value.type "tuple" from q4) (by decide)
    refine wpAny_pyNext_enum_itemD (Draws.tuple (show X.A.in1.handled = none from I.ok.hd hc) it a hai its.toArray) he ⟨hit, hP⟩ (by have := (List.getElem?_eq_some_iff.mp hu).1; simpa using this) hne (by simp [hne, hae]) fun y h' tk hy ho hit' hT hsz hk => ?_
    have ey : y = u := by
      have hy : its.toArray[i]? = some y := hy
      rw [List.getElem?_toArray, hu] at hy
      exact (Option.some.inj hy).symm
    subst ey
    refine ⟨_, rfl, wpAny_letOwnedTupleGo_enum (s := { s with heap := h', toks := tk + 1 }) ho fun h'' he' sb => ?_⟩
    have hT2 : h''.get? s.heap.objs.size = some { cls := .type "tuple", data := .seq #[.int i tk, y] } := (sb.2 _ (Nat.ne_of_gt hel)).trans hT
    have new : ObjOk X.prog X.w (upd H s.heap.objs.size (.tup [.int (i : Nat), x])) h'' s.heap.objs.size (.tup [.int (i : Nat), x]) :=
      ⟨by show 2 ≤ sizeLine; decide, [.int i tk, y], .cons ⟨_, rfl⟩ (.cons ru .nil), ⟨_, hT2, rfl, _, rfl⟩⟩
    have I1 : Inv X pins σ (upd H s.heap.objs.size (.tup [.int (i : Nat), x])) { s with heap := h'', toks := tk + 1 } :=
      I.turnedNew (ch := [e, it]) (fun b ob hb q => (sb.2 b (fun z => hb (by simp [z]))).trans (hk b ob (fun z => hb (by simp [z])) (fun z => hb (by simp [z])) q)) hf (Nat.le_refl _) new
    refine ⟨.ref s.heap.objs.size, _, I1, rfl, ⟨_, x, rfl, I.hok.fresh (Nat.le_refl _), rfl, fun ys hy => by rw [I.tuple_inj hy hq]; exact hx⟩, ⟨⟨y, ?_⟩, hit'.1.at fun o q => (sb.2 it (Ne.symm hne)).trans q, hne⟩, fun b hb => ?_⟩
    · have e1 : ((i + 1 : Nat) : Int) = (i : Int) + 1 := by omega
      rw [e1]; exact he'
    · have hb' : b < s.heap.objs.size := by
        have e' : b = e ∨ b = it := by simpa using hb
        rcases e' with z | z
        · rw [z]; exact hel
        · rw [z]; exact hil
      rw [upd_ne (Nat.ne_of_lt hb')]
      exact (hf b hb).1
  done := by
    intro X hP hw hK hc i pins s σ H E I hf st hg
    subst hP hw hK
    obtain ⟨⟨old, he⟩, hit, hne⟩ := st
    obtain ⟨xs, hq, hx⟩ := hg
    obtain ⟨its, rv, p, hz⟩ := I.tuple hq
    obtain ⟨f0, f1, f2, f3, f4, f5⟩ := hf it (by simp)
    have hl := rv.length
    have hP : s.heap.IsTuple a its.toArray := p
    have hai : a ≠ it := by
      intro z
      obtain ⟨o, q1, q2, _⟩ := hit
      obtain ⟨o', q3, q4, _⟩ := hP
      rw [z, q1] at q3
      cases q3
      rw [q2] at q4
      exact absurd q4 (by decide)
    subst hx
    have hi : xs.length = its.toArray.size := by simpa using hl
    exact wpAny_pyNext_enum_endD (Draws.tuple (show X.A.in1.handled = none from I.ok.hd hc) it a hai its.toArray) he ⟨by rw [← hi]; exact hit, hP⟩ fun h' eb => ⟨rfl, I.turned (t' := s.toks) (fun b o hb q => eb b o hb q) f0 f1 f3 f4 f5⟩
  self := fun A i s Q E st h => let ⟨⟨_, he⟩, _⟩ := st; wpAny_pyIter_enum he h
def iEnumT (K : PySem.W.Frag) (ta : TA) : TI := fun σ H R => ta σ H fun vs H1 => ∃ a xs, vs = [.ref a] ∧ SqT K H1 a xs ∧ R (IteT K a) H1
theorem pi_enumT {X : Cx} {e : Expr} {ta : TA} {p pos tpos : Pos} {elts : List Expr} {kk : Nat} (hg : Gl X "enumerate") (hm : X.mg "enumerate" = none) (ha : PA X [e] ta) (hs : starEach [e] X.env = [(false, eval e X.env)] := by rfl) :
    PI X (.Tuple elts kk tpos) (.Call (.Name "enumerate" p) [e] [] pos) (iEnumT X.K ta) := by
  refine ⟨fun pins s σ H R I h => ?_⟩
  refine Call_ (ld_blt I hg hm boot_enumerate (PyProof.Rows.callWith_type1 (thn (ha.run pos pins s σ H _ I h) fun us s1 ⟨vs, H1, I1, r1, q1⟩ => ?_) hs rfl))
  obtain ⟨a, xs, ex, hq, q⟩ := q1
  subst ex
  cases r1 with
  | cons r rr =>
    cases rr
    cases r
    obtain ⟨its, rv, p', hz⟩ := I1.tuple hq
    refine giEnumT (show s1.heap.IsTuple a its.toArray from p') fun h' he hit hsz hk => wpAny_pyIter_enum he ?_
    have I2 : Inv X pins σ H1 { s1 with heap := h' } := I1.kept (t' := s1.toks) hk
    refine ⟨s1.heap.objs.size + 1, [s1.heap.objs.size + 1, s1.heap.objs.size], _, _, H1, rfl, I2, turn_enumT a (s1.heap.objs.size + 1) s1.heap.objs.size, ⟨⟨.none, he⟩, hit, Nat.succ_ne_self _⟩, fun b hb => ?_, q⟩
    have e' : b = s1.heap.objs.size + 1 ∨ b = s1.heap.objs.size := by simpa using hb
    have hle : s1.heap.objs.size ≤ b := by
      rcases e' with z | z
      · rw [z]; exact Nat.le_add_right _ _
      · rw [z]; exact Nat.le_refl _
    exact I1.fpOk hle (I1.hok.fresh hle)
/-- J gives ds, one after another, whatever is added meanwhile -/
def Walks (K : PySem.W.Frag) (mg : Str → Option Value) (J : It) (S1 : Sx) (ds : List Dat) : Prop := ∀ S2, Gx S1 S2 → SOk K mg S2 →
  (∀ (i : Nat) (d : Dat), ds[i]? = some d → J.go i S2.H ∧ ∀ x H', J.yld i S2.H x H' → ∃ S3, S3.H = H' ∧ Ext S2 S3 ∧ SOk K mg S3 ∧ S3.st = S2.st ∧ RepS K mg S3 x d) ∧ J.stop ds.length S2.H
/-- tg in iter walks over f's data -/
def iT (K : PySem.W.Frag) (mg : Str → Option Value) (S0 : Sx) (W : WX) (f : EvL) : TI := fun σ H R =>
  ∃ S env, S.H = H ∧ SOk K mg S ∧ EnvRep K mg S0 S σ env ∧ outE K mg W σ S (f env S.st) (fun ds st => ∀ J S1, Ext S S1 → SOk K mg S1 → S1.st = st → Walks K mg J S1 ds → R J S1.H)
def Di (X : Cx) (W : WX) (tg iter : Expr) (f : EvL) : Prop := ∀ S0, PI X tg iter (iT X.K X.mg S0 W f)
theorem piW {X : Cx} {tg e : Expr} {t t' : TI} (h : PI X tg e t) (i : ∀ σ H R, t' σ H R → t σ H R) : PI X tg e t' := ⟨fun pins s σ H R I q => h.run pins s σ H R I (i σ H R q)⟩
section
variable {X : Cx} {W : WX} {tg e : Expr} {f : Ev} {fl : EvL} {pos p : Pos} {body : List Stmt} {g : Exe} {K : PySem.W.Frag} {mg : Str → Option Value}
theorem sqL_det {H : Hp} {a : Addr} {pins : List (Addr × Obj)} {σ : L2.St} {s : Shared} (I : Inv X pins σ H s) {xs ys : List V} (h1 : SqL X.K H a xs) (h2 : SqL X.K H a ys) : xs = ys := I.list_inj h1 h2
theorem walks_list {S1 : Sx} {a : Addr} {vs : List V} {ds : List Dat} (h : SqL K S1.G a vs) (r : RepSL K mg S1 vs ds) : Walks K mg (Itl K a) S1 ds := fun S2 g ok2 => by
  have h2 : SqL K S2.H a vs := sqL_H ok2 (sqL_mono g.gle h)
  refine ⟨fun i d hd => ?_, ⟨vs, h2, by rw [r.length]; exact Nat.le_refl _⟩⟩
  obtain ⟨v, hv, rv⟩ := r.get hd
  refine ⟨⟨vs, v, h2, hv⟩, fun x H' y => ?_⟩
  obtain ⟨e, y⟩ := y
  have ex : x = v := Option.some.inj ((y vs h2).symm.trans hv)
  subst ex
  exact ⟨S2, e.symm, Ext.refl S2, ok2, rfl, rv.gx g⟩
theorem walks_tup {S1 : Sx} {a : Addr} {vs : List V} {ds : List Dat} (h : SqT K S1.G a vs) (r : RepSL K mg S1 vs ds) : Walks K mg (Itt K a) S1 ds := fun S2 g ok2 => by
  have h2 : SqT K S2.H a vs := sqT_H ok2 (sqT_mono g.gle h)
  refine ⟨fun i d hd => ?_, ⟨vs, h2, by rw [r.length]; exact Nat.le_refl _⟩⟩
  obtain ⟨v, hv, rv⟩ := r.get hd
  refine ⟨⟨vs, v, h2, hv⟩, fun x H' y => ?_⟩
  obtain ⟨e, y⟩ := y
  have ex : x = v := Option.some.inj ((y vs h2).symm.trans hv)
  subst ex
  exact ⟨S2, e.symm, Ext.refl S2, ok2, rfl, rv.gx g⟩
def rangeD (lo : Int) (n : Nat) : List Dat := (List.range n).map fun (i : Nat) => Dat.int (lo + (i : Int))
def enumD (ds : List Dat) : List Dat := ds.zipIdx.map fun (p : Dat × Nat) => Dat.tup [.int (p.2 : Int), p.1]
theorem walks_range {S1 : Sx} {lo : Int} {n : Nat} : Walks K mg (Itr lo n) S1 (rangeD lo n) := fun S2 g ok2 => by
  unfold rangeD
  refine ⟨fun i d hd => ?_, ?_⟩
  · rw [List.getElem?_map] at hd
    cases e : (List.range n)[i]? with
    | none => rw [e] at hd; cases hd
    | some k =>
      rw [e] at hd
      have hk : i < n ∧ i = k := by
        have := List.getElem?_eq_some_iff.mp e
        obtain ⟨h1, h2⟩ := this
        simp at h1 h2
        exact ⟨h1, h2⟩
      obtain ⟨h1, rfl⟩ := hk
      cases hd
      refine ⟨h1, fun x H' y => ?_⟩
      obtain ⟨e1, rfl⟩ := y
      exact ⟨S2, e1.symm, Ext.refl S2, ok2, rfl, .int _⟩
  · show n ≤ _
    simp
theorem enum_get {ds : List Dat} {i : Nat} {d : Dat} (h : (enumD ds)[i]? = some d) : ∃ d', ds[i]? = some d' ∧ d = .tup [.int (i : Int), d'] := by
  unfold enumD at h
  rw [List.getElem?_map, List.getElem?_zipIdx] at h
  cases e : ds[i]? with
  | none => rw [e] at h; cases h
  | some d' =>
    rw [e] at h
    refine ⟨d', rfl, ?_⟩
    simp at h
    exact h.symm
theorem enumD_length (ds : List Dat) : (enumD ds).length = ds.length := by simp [enumD]
theorem walks_enum {S1 : Sx} {a : Addr} {vs : List V} {ds : List Dat} (h : SqL K S1.G a vs) (r : RepSL K mg S1 vs ds) : Walks K mg (Ite K a) S1 (enumD ds) := fun S2 g ok2 => by
  have h2 : SqL K S2.H a vs := sqL_H ok2 (sqL_mono g.gle h)
  refine ⟨fun i d hd => ?_, ⟨vs, h2, by rw [r.length, enumD_length]; exact Nat.le_refl _⟩⟩
  obtain ⟨d', hd', rfl⟩ := enum_get hd
  obtain ⟨v, hv, rv⟩ := r.get hd'
  refine ⟨⟨vs, v, h2, hv⟩, fun x H' y => ?_⟩
  obtain ⟨T, y1, rfl, hT, rfl, y⟩ := y
  have ex : y1 = v := Option.some.inj ((y vs h2).symm.trans hv)
  subst ex
  exact ⟨S2.put T (.tup [.int (i : Nat), y1]), rfl, Ext.put ok2 hT _, ok2.put hT _, rfl, newT ok2 (.cons (.int _) (.cons (rv.gx g) .nil)) hT⟩
theorem walks_enumT {S1 : Sx} {a : Addr} {vs : List V} {ds : List Dat} (h : SqT K S1.G a vs) (r : RepSL K mg S1 vs ds) : Walks K mg (IteT K a) S1 (enumD ds) := fun S2 g ok2 => by
  have h2 : SqT K S2.H a vs := sqT_H ok2 (sqT_mono g.gle h)
  refine ⟨fun i d hd => ?_, ⟨vs, h2, by rw [r.length, enumD_length]⟩⟩
  obtain ⟨d', hd', rfl⟩ := enum_get hd
  obtain ⟨v, hv, rv⟩ := r.get hd'
  refine ⟨⟨vs, v, h2, hv⟩, fun x H' y => ?_⟩
  obtain ⟨T, y1, rfl, hT, rfl, y⟩ := y
  have ex : y1 = v := Option.some.inj ((y vs h2).symm.trans hv)
  subst ex
  exact ⟨S2.put T (.tup [.int (i : Nat), y1]), rfl, Ext.put ok2 hT _, ok2.put hT _, rfl, newT ok2 (.cons (.int _) (.cons (rv.gx g) .nil)) hT⟩
theorem PI.or {w1 w2 : TI} (h1 : PI X tg e w1) (h2 : PI X tg e w2) : PI X tg e (fun σ H R => w1 σ H R ∨ w2 σ H R) := ⟨fun pins s σ H R I h => by
  rcases h with h | h
  · exact h1.run pins s σ H R I h
  · exact h2.run pins s σ H R I h⟩
def seqD : Dat → Option (List Dat)
  | .lst ds => some ds
  | .tup ds => some ds
  | .scr ds => some ds
  | _ => none
def iSeq (f : Ev) : EvL := fun env st => (f env st).bind fun d st1 => Out.of (seqD d) st1
def mid (i : Int) : Bool := decide (-4000000000000000000 ≤ i ∧ i < 4000000000000000000)
theorem mid_lo {i : Int} (h : mid i = true) : -(2 ^ 62) ≤ i := by
  have := (of_decide_eq_true h).1
  omega
theorem mid_hi {i : Int} (h : mid i = true) : i < 2 ^ 62 := by
  have := (of_decide_eq_true h).2
  omega
def dRange1 : List Dat → Option (List Dat)
  | [.int j] => if mid j then some (rangeD 0 j.toNat) else none
  | _ => none
def dRange2 : List Dat → Option (List Dat)
  | [.int i, .int j] => if mid i && mid j then some (rangeD i (j - i).toNat) else none
  | _ => none
def iL (g : List Dat → Option (List Dat)) (fl : EvL) : EvL := fun env st => (fl env st).bind fun ds st1 => Out.of (g ds) st1
def dEnum : List Dat → Option (List Dat)
  | [d] => (seqD d).map enumD
  | _ => none
theorem di_seq (h : De X W e f) : Di X W tg e (iSeq f) := fun S0 => by
  refine piW (t := fun σ H R => tE X.K X.mg S0 W f σ H fun x H1 => (∃ a, x = .ref a ∧ (∃ xs, SqL X.K H1 a xs) ∧ R (Itl X.K a) H1) ∨ (∃ a, x = .ref a ∧ (∃ xs, SqT X.K H1 a xs) ∧ R (Itt X.K a) H1)) ⟨fun pins s σ H R I q => ?_⟩ fun σ H R q => ?_
  · refine thn ((h S0).run pins s σ H _ I q) fun v s1 ⟨x, H1, I1, r1, q1⟩ => ?_
    rcases q1 with ⟨a, rfl, ⟨xs, hq⟩, q⟩ | ⟨a, rfl, ⟨xs, hq⟩, q⟩
    · cases r1
      obtain ⟨its, rv, pl, hz⟩ := I1.list hq
      refine wpAny_pyIter_list pl.isList ?_
      refine ⟨s1.heap.objs.size, [s1.heap.objs.size], _, _, H1, rfl, I1.kept (t' := s1.toks) fun b o e => Heap.get?_push_of_some _ e, turn_list a _, ⟨_, Heap.get?_push_size _ rfl, rfl, rfl⟩, fun b hb => ?_, q⟩
      have e : b = s1.heap.objs.size := by simpa using hb
      subst e
      exact I1.fpOk (Nat.le_refl _) (I1.hok.fresh (Nat.le_refl _))
    · cases r1
      obtain ⟨its, rv, pl, hz⟩ := I1.tuple hq
      refine wpAny_pyIter_tuple (show s1.heap.IsTuple a its.toArray from pl) ?_
      refine ⟨s1.heap.objs.size, [s1.heap.objs.size], _, _, H1, rfl, I1.kept (t' := s1.toks) fun b o e => Heap.get?_push_of_some _ e, turn_tuple a _, ⟨_, Heap.get?_push_size _ rfl, rfl, rfl⟩, fun b hb => ?_, q⟩
      have e : b = s1.heap.objs.size := by simpa using hb
      subst e
      exact I1.fpOk (Nat.le_refl _) (I1.hok.fresh (Nat.le_refl _))
  · obtain ⟨S, env, rfl, ok, er, q⟩ := q
    refine ⟨S, env, rfl, ok, er, q.imp fun d st q1 v S1 x1 ok1 e1 r1 => ?_⟩
    subst e1
    cases r1 with
    | lst hs hr => exact .inl ⟨_, rfl, ⟨_, sqL_H ok1 (sq_of hs)⟩, q1 _ S1 x1 ok1 rfl (walks_list (sq_of hs) hr)⟩
    | scr hs hr => exact .inl ⟨_, rfl, ⟨_, sqL_H ok1 hs⟩, q1 _ S1 x1 ok1 rfl (walks_list hs hr)⟩
    | tup hs hr => exact .inr ⟨_, rfl, ⟨_, sqT_H ok1 hs⟩, q1 _ S1 x1 ok1 rfl (walks_tup hs hr)⟩
    | _ => exact (show False from q1).elim
theorem di_range1 {a : Expr} (hg : Gl X "range") (hm : X.mg "range" = none) (ha : Des X W [a] fl) (hs : starEach [a] X.env = [(false, eval a X.env)] := by rfl) : Di X W tg (.Call (.Name "range" p) [a] [] pos) (iL dRange1 fl) := fun S0 => by
  refine piW (pi_range1 hg hm (ha S0) hs) fun σ H R q => ?_
  obtain ⟨S, env, rfl, ok, er, q⟩ := q
  refine ⟨S, env, rfl, ok, er, q.imp fun ds st q1 vs S1 x1 ok1 e1 r1 => ?_⟩
  cases e : dRange1 ds with
  | none => rw [e] at q1; exact q1.elim
  | some is =>
    rw [e] at q1
    unfold dRange1 at e
    split at e
    · split at e
      · rename_i j hj
        cases e
        cases r1 with
        | cons h1 h2 =>
          cases h1
          cases h2
          exact ⟨j, rfl, mid_lo hj, mid_hi hj, q1 _ S1 x1 ok1 e1 walks_range⟩
      · cases e
    · cases e
theorem di_range2 {a b : Expr} (hg : Gl X "range") (hm : X.mg "range" = none) (ha : Des X W [a, b] fl) (hs : starEach [a, b] X.env = [(false, eval a X.env), (false, eval b X.env)] := by rfl) (hs2 : starEach [b] X.env = [(false, eval b X.env)] := by rfl) :
    Di X W tg (.Call (.Name "range" p) [a, b] [] pos) (iL dRange2 fl) := fun S0 => by
  refine piW (pi_range2 hg hm (ha S0) hs hs2) fun σ H R q => ?_
  obtain ⟨S, env, rfl, ok, er, q⟩ := q
  refine ⟨S, env, rfl, ok, er, q.imp fun ds st q1 vs S1 x1 ok1 e1 r1 => ?_⟩
  cases e : dRange2 ds with
  | none => rw [e] at q1; exact q1.elim
  | some is =>
    rw [e] at q1
    unfold dRange2 at e
    split at e
    · split at e
      · rename_i i j hj
        cases e
        obtain ⟨h1, h2⟩ := Bool.and_eq_true_iff.mp hj
        cases r1 with
        | cons r1 r2 =>
          cases r1
          cases r2 with
          | cons r2 r3 =>
            cases r2
            cases r3
            exact ⟨i, j, rfl, ⟨mid_lo h1, mid_hi h1, mid_lo h2, mid_hi h2⟩, q1 _ S1 x1 ok1 e1 walks_range⟩
      · cases e
    · cases e
theorem di_enum {elts : List Expr} {kk : Nat} {tpos : Pos} (hg : Gl X "enumerate") (hm : X.mg "enumerate" = none) (ha : Des X W [e] fl) (hs : starEach [e] X.env = [(false, eval e X.env)] := by rfl) :
    Di X W (.Tuple elts kk tpos) (.Call (.Name "enumerate" p) [e] [] pos) (iL dEnum fl) := fun S0 => by
  refine piW (t := fun σ H R => tEs X.K X.mg S0 W fl σ H fun vs H1 => (∃ a xs, vs = [.ref a] ∧ SqL X.K H1 a xs ∧ R (Ite X.K a) H1) ∨ (∃ a xs, vs = [.ref a] ∧ SqT X.K H1 a xs ∧ R (IteT X.K a) H1)) ⟨fun pins s σ H R I q => ?_⟩ fun σ H R q => ?_
  · refine Call_ (ld_blt I hg hm boot_enumerate (PyProof.Rows.callWith_type1 (thn ((ha S0).run pos pins s σ H _ I q) fun us s1 ⟨vs, H1, I1, r1, q1⟩ => ?_) hs rfl))
    rcases q1 with ⟨a, xs, rfl, hq, q⟩ | ⟨a, xs, rfl, hq, q⟩
    · cases r1 with
      | cons r rr =>
        cases rr
        cases r
        obtain ⟨its, rv, p', hz⟩ := I1.list hq
        refine call_enumerate_list p'.isList fun h' he hit hsz hk => wpAny_pyIter_enum he ?_
        have I2 : Inv X pins σ H1 { s1 with heap := h' } := I1.kept (t' := s1.toks) hk
        refine ⟨s1.heap.objs.size + 1, [s1.heap.objs.size + 1, s1.heap.objs.size], _, _, H1, rfl, I2, turn_enum a (s1.heap.objs.size + 1) s1.heap.objs.size, ⟨⟨.none, he⟩, hit, Nat.succ_ne_self _⟩, fun b hb => ?_, q⟩
        have e' : b = s1.heap.objs.size + 1 ∨ b = s1.heap.objs.size := by simpa using hb
        have hle : s1.heap.objs.size ≤ b := by
          rcases e' with z | z
          · rw [z]; exact Nat.le_add_right _ _
          · rw [z]; exact Nat.le_refl _
        exact I1.fpOk hle (I1.hok.fresh hle)
    · cases r1 with
      | cons r rr =>
        cases rr
        cases r
        obtain ⟨its, rv, p', hz⟩ := I1.tuple hq
        refine giEnumT (show s1.heap.IsTuple a its.toArray from p') fun h' he hit hsz hk => wpAny_pyIter_enum he ?_
        have I2 : Inv X pins σ H1 { s1 with heap := h' } := I1.kept (t' := s1.toks) hk
        refine ⟨s1.heap.objs.size + 1, [s1.heap.objs.size + 1, s1.heap.objs.size], _, _, H1, rfl, I2, turn_enumT a (s1.heap.objs.size + 1) s1.heap.objs.size, ⟨⟨.none, he⟩, hit, Nat.succ_ne_self _⟩, fun b hb => ?_, q⟩
        have e' : b = s1.heap.objs.size + 1 ∨ b = s1.heap.objs.size := by simpa using hb
        have hle : s1.heap.objs.size ≤ b := by
          rcases e' with z | z
          · rw [z]; exact Nat.le_add_right _ _
          · rw [z]; exact Nat.le_refl _
        exact I1.fpOk hle (I1.hok.fresh hle)
  · obtain ⟨S, env, rfl, ok, er, q⟩ := q
    refine ⟨S, env, rfl, ok, er, q.imp fun ds st q1 vs S1 x1 ok1 e1 r1 => ?_⟩
    subst e1
    cases r1 with
    | nil => exact q1.elim
    | cons h1 h2 =>
      cases h2 with
      | cons _ _ => exact q1.elim
      | nil =>
        cases h1 with
        | lst hs hr => exact .inl ⟨_, _, rfl, sqL_H ok1 (sq_of hs), q1 _ S1 x1 ok1 rfl (walks_enum (sq_of hs) hr)⟩
        | scr hs hr => exact .inl ⟨_, _, rfl, sqL_H ok1 hs, q1 _ S1 x1 ok1 rfl (walks_enum hs hr)⟩
        | tup hs hr => exact .inr ⟨_, _, rfl, sqT_H ok1 hs, q1 _ S1 x1 ok1 rfl (walks_enumT hs hr)⟩
        | _ => exact (show False from q1).elim
def sForL (t : Tg) (fb : Exe) : List Dat → Exe
  | [] => fun env st => .nx env st
  | d :: r => fun env st => match t d with
    | some bs => loopO (fb (setE env bs) st) (sForL t fb r)
    | none => .bad
def sFor (t : Tg) (fi : EvL) (fb : Exe) : Exe := fun env st => (fi env st).go env fun ds st1 => sForL t fb ds env st1
theorem ds_for {iter : Expr} {fi : EvL} {t : Tg} (hp : PassesOwn (model X.prog X.w) X.A X.env X.xe) (hc : X.calm = true) (hi : Di X W tg iter fi) (hg : Dg X tg t) (hb : Dss X W body g) (hs : ∀ x, foldedSetIterable iter X.env x = pure x := by intro _; rfl) :
    Ds X W (.For tg iter body [] pos) (sFor t fi g) := fun S0 => by
  refine psW (ps_for hp hc (hi S0) hg (hb S0) hs) fun D σ H q => ?_
  rw [tS_eq] at q
  obtain ⟨S, env, rfl, ok, er, x, q⟩ := q
  refine ⟨S, env, rfl, ok, er, outS.of ok er x q fun ds st z J S1 x1 ok1 e1 wk => ?_⟩
  subst e1
  refine ⟨fun i m σ H => m = ds.length - i ∧ i ≤ ds.length ∧ ∃ S2 env, S2.H = H ∧ SOk X.K X.mg S2 ∧ EnvRep X.K X.mg S0 S2 σ env ∧ Ext S0 S2 ∧ Gx S1 S2 ∧ outS X.K X.mg S0 S2 W D (sForL t g (ds.drop i) env S2.st),
    ⟨ds.length, rfl, Nat.zero_le _, S1, env, rfl, ok1, er.ext x1, Ext.trans ok x x1, Gx.refl S1, outS.later z x1.gx⟩, ?_⟩
  rintro i m σ2 H2 ⟨rfl, hi, S2, env2, rfl, ok2, er2, x2, g2, q2⟩
  obtain ⟨wgo, wst⟩ := wk S2 g2 ok2
  by_cases hlt : i < ds.length
  · refine .inr ⟨(wgo i ds[i] (List.getElem?_eq_getElem hlt)).1, fun σ H => ∃ S2 env, S2.H = H ∧ SOk X.K X.mg S2 ∧ EnvRep X.K X.mg S0 S2 σ env ∧ Ext S0 S2 ∧ Gx S1 S2 ∧ outS X.K X.mg S0 S2 W D (sForL t g (ds.drop (i + 1)) env S2.st),
      fun σ' H' h' => ⟨ds.length - (i + 1), by omega, rfl, hlt, h'⟩, fun v H' y => ?_⟩
    obtain ⟨S3, rfl, x3, ok3, e3, r3⟩ := (wgo i ds[i] (List.getElem?_eq_getElem hlt)).2 v H' y
    rw [List.drop_eq_getElem_cons hlt] at q2
    have q2 : outS X.K X.mg S0 S2 W D (match t ds[i] with
      | some bs => loopO (g (setE env2 bs) S2.st) (sForL t g (ds.drop (i + 1)))
      | none => .bad) := q2
    cases et : t ds[i] with
    | none => rw [et] at q2; exact q2.elim
    | some bs =>
      rw [et] at q2
      refine ⟨S3, ds[i], bs, rfl, ok3, r3, et, fun vbs pb => ?_⟩
      refine ⟨S3, setE env2 bs, rfl, ok3, (er2.ext x3).setAll pb, Ext.trans ok2 x2 x3, ?_⟩
      rw [e3]
      exact outS.loop (outS.later q2 x3.gx) fun env' σ' S4 ok4 x4 er4 z4 => ⟨S4, env', rfl, ok4, er4, x4.x, g2.trans (x3.gx.trans x4.g), z4⟩
  · have e : i = ds.length := by omega
    subst e
    refine .inl ⟨wst, ?_⟩
    rw [List.drop_length] at q2
    exact q2 σ2 S2 ok2 ⟨x2, Gx.refl S2⟩ rfl er2
end
end GI
set_option Elab.async false
set_option linter.all false
set_option maxRecDepth 100000
set_option maxHeartbeats 2000000
namespace GI
open PySem PySem.Spec PyProof.Rows L2
abbrev Fn := List Dat → Sto → Out Dat
section
variable (K : PySem.W.Frag) (mg : Str → Option Value)
/-- a def's promise by a function on data -/
def spF (n : Nat) (F : Fn) : Sp := fun vs H Q E => vs.length = n ∧ ∃ S ds, S.H = H ∧ SOk K mg S ∧ RepSL K mg S vs ds ∧
  outE K mg (fun c d _ H => E c d H) [] S (F ds S.st) fun d st => ∀ v S', Ext S S' → SOk K mg S' → S'.st = st → RepS K mg S' v d → Q v S'.H
end
def sCall (n : Nat) (F : Fn) (fl : EvL) : Ev := fun env st => (fl env st).bind fun ds st1 => if ds.length = n then F ds st1 else .bad
def envOf (n : Nat) (ds : List Dat) : Env := ds.map (fun d => some (.sh d)) ++ List.replicate (n - ds.length) none
def fnF (n : Nat) (body : Exe) : Fn := fun ds st => match body (envOf n ds) st with
  | .nx _ st' => .ok .non st'
  | .rt d st' => .ok d st'
  | .ex c fs _ st' => .ex c fs st'
  | _ => .bad
section
variable {X : Cx} {W : WX} {e : Expr} {es : List Expr} {fl : EvL} {pos p : Pos} {F : Fn} {n k : Nat} {f : Addr} {fd : FuncData} {ps : List Str} {x : Str} {K : PySem.W.Frag} {mg : Str → Option Value}
theorem d_call (G : FnOk X.prog X.w X.K X.mg X.base (L2.CX X.prog X.w) k f fd ps (spF X.K X.mg n F)) (hr : Room k X.A) (hg : Gl X x) (hm : X.mg x = some (.ref f)) (hk : PySem.W.keepIn X.K (.ref f) = true) (hb : Binds X.K fd ps []) (tk : Takes X W)
    (ha : Des X W (e :: es) fl) (hdb : (x == ("__debug__" : Str)) = false := by decide) (he : starEach (e :: es) X.env = (false, eval e X.env) :: starEach es X.env := by rfl) (hpl : (backTo pos (starEach es X.env)).any (·.1) = false := by rfl) :
    De X W (.Call (.Name x p) (e :: es) [] pos) (sCall n F fl) := fun S0 => by
  refine peW (pe_callSD (E := fun σ c d H => W c d σ H) (dvs := []) G hr hg hm hk hb .nil (fun σ => passAt tk σ) (ha S0) hdb he hpl) fun σ H Q q => ?_
  obtain ⟨S, env, rfl, ok, er, q⟩ := q
  refine ⟨S, env, rfl, ok, er, q.imp fun ds st q vs S1 x1 ok1 e1 r1 => ?_⟩
  subst e1
  rw [List.append_nil]
  by_cases hl : ds.length = n
  · rw [if_pos hl] at q
    refine ⟨by rw [r1.length]; exact hl, S1, ds, rfl, ok1, r1, ?_⟩
    cases ef : F ds S1.st with
    | ok d st2 => rw [ef] at q; exact fun v S' xx ok' es' r => q v S' (Ext.trans ok1 x1 xx) ok' es' r
    | ex c fs st2 => rw [ef] at q; exact fun S' cls dx xx ok' es' r => q S' cls dx (Ext.trans ok1 x1 xx) ok' es' r
    | bad => rw [ef] at q; exact q
  · rw [if_neg hl] at q
    exact q.elim
theorem envOf_get {n : Nat} {ds : List Dat} {i : Nat} {s : Slot} (h : (envOf n ds)[i]? = some (some s)) : ∃ d, ds[i]? = some d ∧ s = .sh d := by
  unfold envOf at h
  by_cases hi : i < ds.length
  · rw [List.getElem?_append_left (by simpa using hi), List.getElem?_map, List.getElem?_eq_getElem hi] at h
    cases h
    exact ⟨_, List.getElem?_eq_getElem hi, rfl⟩
  · rw [List.getElem?_append_right (by simpa using hi), List.getElem?_replicate] at h
    split at h <;> cases h
theorem env_start {S : Sx} {vs : List V} {ds : List Dat} {N : List Str} (r : RepSL K mg S vs ds) : EnvRep K mg S S (L2.start N vs) (envOf N.length ds) := by
  have hl := r.length
  refine ⟨by simp [L2.start, envOf, hl], fun _ => [], fun i s e => ?_, fun i p hp => ?_, fun i j p hp => ?_⟩
  rotate_left
  · cases hp
  · cases hp
  obtain ⟨d, hd, rfl⟩ := envOf_get e
  obtain ⟨v, hv, rv⟩ := r.get hd
  refine ⟨v, ?_, rfl, rv⟩
  unfold L2.start
  have hi := (List.getElem?_eq_some_iff.mp hv).1
  rw [List.getElem?_append_left (by simpa using hi), List.getElem?_map, hv]
  rfl
theorem fn_ok {P : Program} {w : World} {base : Heap} {qual : Str} {st : Stmt} {N : List Str} {body : Exe} (Fu : Fun K x qual st f fd) (Sc : FnScope N ps (defScope st))
    (hb : ∀ (cdv : Value) (A : Around) (outer : List PySem.Env) (s : Shared) (H : Hp) (E : XK), Room k (A.deeper (envOfC qual (defScope st) s.heap.objs.size f cdv)) →
      Takes (cxOf (L2.CX P w) P w K mg base N qual (defScope st) f cdv A outer s H E) (fun c d _ H => E c d H) →
      PassesOwn (model P w) (cxOf (L2.CX P w) P w K mg base N qual (defScope st) f cdv A outer s H E).A (cxOf (L2.CX P w) P w K mg base N qual (defScope st) f cdv A outer s H E).env (cxOf (L2.CX P w) P w K mg base N qual (defScope st) f cdv A outer s H E).xe →
      Dss (cxOf (L2.CX P w) P w K mg base N qual (defScope st) f cdv A outer s H E) (fun c d _ H => E c d H) (defBody st) body) :
    FnOk P w K mg base (L2.CX P w) (k + 1) f fd ps (spF K mg ps.length (fnF N.length body)) := by
  refine Fu.okX Sc (fun vs H Q E h => h.1) fun cdv A outer s H vs Q E hr h => ?_
  obtain ⟨hl, S, ds, rfl, ok, r, q⟩ := h
  refine ⟨_, hb cdv A outer s S.H E hr (takes_of rfl rfl rfl rfl) (passes_of rfl) S, ?_⟩
  refine ⟨S, envOf N.length ds, rfl, ok, env_start r, Ext.refl S, ?_⟩
  unfold fnF at q
  cases e : body (envOf N.length ds) S.st with
  | nx env st' => rw [e] at q; exact fun σ' S' ok' x' es er => q .non S' x'.x ok' es .non
  | rt d st' => rw [e] at q; exact fun v S' ok' x' es r => q v S' x'.x ok' es r
  | ex c fs env st' => rw [e] at q; exact fun σ' S' cls dx ok' x' es er r => q S' cls dx x'.x ok' es r
  | bk env st' => rw [e] at q; exact q.elim
  | ct env st' => rw [e] at q; exact q.elim
  | bad => rw [e] at q; exact q
def ClR (K : PySem.W.Frag) (mg : Str → Option Value) (r : List V → Hp → VK → Prop) (g : List Dat → Option Dat) : Prop := ∀ (S : Sx) (vs : List V) (ds : List Dat) (d : Dat) (Q : VK), SOk K mg S → RepSL K mg S vs ds → g ds = some d →
  (∀ v S', Ext S S' → SOk K mg S' → S'.st = S.st → RepS K mg S' v d → Q v S'.H) → r vs S.H Q
def sB (g : List Dat → Option Dat) (fl : EvL) : Ev := fun env st => (fl env st).bind fun ds st1 => Out.of (g ds) st1
theorem tE_B {S0 : Sx} {g : List Dat → Option Dat} {r : List V → Hp → VK → Prop} {σ : L2.St} {H : Hp} {Q : VK} (hr : ClR K mg r g) (h : tE K mg S0 W (sB g fl) σ H Q) : tCB r (tEs K mg S0 W fl) σ H Q := by
  obtain ⟨S, env, rfl, ok, er, q⟩ := h
  refine ⟨S, env, rfl, ok, er, q.imp fun ds st q1 vs S1 x1 ok1 e1 r1 => ?_⟩
  subst e1
  cases e : g ds with
  | none => rw [e] at q1; exact q1.elim
  | some d =>
    rw [e] at q1
    exact hr S1 vs ds d Q ok1 r1 e fun v S' xx ok' es => q1 v S' (Ext.trans ok1 x1 xx) ok' es
theorem d_B {id : String} {r : List V → Hp → VK → Prop} {g : List Dat → Option Dat} (hc : CallR X (.builtin id) r) (hr : ClR X.K X.mg r g) (hg : Gl X x) (hm : X.mg x = none) (hv : bootBuiltins x = some (.builtin id)) (ha : Des X W (e :: es) fl) (hn : x ≠ "__name__" := by decide) (hdb : (x == ("__debug__" : Str)) = false := by decide)
    (he : starEach (e :: es) X.env = (false, eval e X.env) :: starEach es X.env := by rfl) (hpl : (backTo pos (starEach es X.env)).any (·.1) = false := by rfl) : De X W (.Call (.Name x p) (e :: es) [] pos) (sB g fl) := fun S0 =>
  peW (pe_callB hc hg hm hv (ha S0) hn hdb he hpl) fun σ H Q q => tE_B hr q
theorem d_Ty {T : String} {r : List V → Hp → VK → Prop} {g : List Dat → Option Dat} (hc : CallR X (.type T) r) (hr : ClR X.K X.mg r g) (hg : Gl X x) (hm : X.mg x = none) (hv : bootBuiltins x = some (.type T)) (ha : Des X W (e :: es) fl) (hn : x ≠ "__name__" := by decide) (hdb : (x == ("__debug__" : Str)) = false := by decide)
    (he : starEach (e :: es) X.env = (false, eval e X.env) :: starEach es X.env := by rfl) (hpl : (backTo pos (starEach es X.env)).any (·.1) = false := by rfl) : De X W (.Call (.Name x p) (e :: es) [] pos) (sB g fl) := fun S0 =>
  peW (pe_callTy hc hg hm hv (ha S0) hn hdb he hpl) fun σ H Q q => tE_B hr q
end
end GI
set_option Elab.async false
set_option linter.all false
set_option maxRecDepth 100000
set_option maxHeartbeats 2000000
namespace GI
open PySem PySem.Spec PyProof.Rows L2
def wipeE (env : Env) : List Nat → Env
  | [] => env
  | v :: vs => (wipeE env vs).set v none
def lcL (t : Tg) (fc fe : Ev) (env : Env) : List Dat → Sto → Out (List Dat)
  | [], st => .ok [] st
  | d :: r, st => match t d with
    | some bs => match fc (setE env bs) st with
      | .ok (.bl true) st1 => match fe (setE env bs) st1 with
        | .ok y st2 => (lcL t fc fe env r st2).bind fun ys st3 => .ok (y :: ys) st3
        | _ => .bad
      | .ok (.bl false) st1 => lcL t fc fe env r st1
      | _ => .bad
    | none => .bad
def many (ds : List Dat) : Bool := decide (ds.length ≤ 1000000)
def sLc (t : Tg) (fi : EvL) (fc fe : Ev) (vs : List Nat) : Ev := fun env st => (fi env st).bind fun ds st1 => if many ds then (lcL t fc fe (wipeE env vs) ds st1).bind fun ys st2 => .ok (.lst ys) st2 else .bad
abbrev WF : WX := fun _ _ _ _ => False
def Dts (X : Cx) (W : WX) (ifs : List Expr) (f : Ev) : Prop := ∀ S0, PTs X ifs (tT X.K X.mg S0 W f)
def TgIn (t : Tg) (vs : List Nat) : Prop := ∀ d bs, t d = some bs → ∀ p ∈ bs, p.1 ∈ vs
def TgsIn (t : Tgs) (vs : List Nat) : Prop := ∀ d bs, t d = some bs → ∀ p ∈ bs, p.1 ∈ vs
theorem tgIn_name {i : Nat} {vs : List Nat} (h : i ∈ vs) : TgIn (tgName i) vs := fun d bs e p hp => by
  cases e
  have e : p = (i, d) := by simpa using hp
  rw [e]; exact h
theorem tgIn_nil {vs : List Nat} : TgsIn tgNil vs := fun ds bs e p hp => by
  cases ds with
  | nil => cases e; cases hp
  | cons _ _ => cases e
theorem tgIn_cons {t : Tg} {u : Tgs} {vs : List Nat} (h1 : TgIn t vs) (h2 : TgsIn u vs) : TgsIn (tgCons t u) vs := fun ds bs e p hp => by
  obtain ⟨d, r, b, c, rfl, e1, e2, rfl⟩ := tgCons_some e
  rcases List.mem_append.mp hp with q | q
  · exact h1 d b e1 p q
  · exact h2 r c e2 p q
theorem tgIn_tup {u : Tgs} {vs : List Nat} (h : TgsIn u vs) : TgIn (tgTup u) vs := fun d bs e p hp => by
  cases d with
  | tup ds => exact h ds bs e p hp
  | _ => cases e
theorem wipe_set (σ : L2.St) (i : Nat) (v : Option V) : ∀ {vs : List Nat}, i ∈ vs → wipe (σ.set i v) vs = wipe σ vs
  | [], h => by cases h
  | w :: vs, h => by
    unfold wipe
    by_cases z : i ∈ vs
    · rw [wipe_set σ i v z]
    · have e : i = w := by
        rcases List.mem_cons.mp h with q | q
        · exact q
        · exact absurd q z
      subst e
      have aux : ∀ {us : List Nat}, i ∉ us → wipe (σ.set i v) us = (wipe σ us).set i v := by
        intro us
        induction us with
        | nil => intro _; rfl
        | cons u us ih =>
          intro hu
          have h1 : i ≠ u := fun z => hu (by simp [z])
          have h2 : i ∉ us := fun z => hu (List.mem_cons_of_mem _ z)
          show (wipe (σ.set i v) us).set u none = ((wipe σ us).set u none).set i v
          rw [ih h2, List.set_comm _ _ h1]
      rw [aux z, List.set_set]
theorem wipe_setV : ∀ (vbs : List (Nat × V)) (σ : L2.St) {vs : List Nat}, (∀ p ∈ vbs, p.1 ∈ vs) → wipe (setV σ vbs) vs = wipe σ vs
  | [], _, _, _ => rfl
  | (i, v) :: r, σ, vs, h => by
    show wipe (setV (σ.set i (some v)) r) vs = wipe σ vs
    rw [wipe_setV r _ fun p hp => h p (List.mem_cons_of_mem _ hp), wipe_set σ i _ (h (i, v) (by simp))]
theorem wipe_wipe (σ : L2.St) : ∀ (vs ws : List Nat), (∀ i ∈ vs, i ∈ ws) → wipe (wipe σ vs) ws = wipe σ ws
  | [], _, _ => rfl
  | v :: vs, ws, h => by
    show wipe ((wipe σ vs).set v none) ws = wipe σ ws
    rw [wipe_set _ _ _ (h v (by simp)), wipe_wipe σ vs ws fun i hi => h i (List.mem_cons_of_mem _ hi)]
theorem PB.mem {K : PySem.W.Frag} {mg : Str → Option Value} {S : Sx} {vs : List Nat} : ∀ {a : List (Nat × V)} {c : List (Nat × Dat)}, PB K mg S a c → (∀ p ∈ c, p.1 ∈ vs) → ∀ p ∈ a, p.1 ∈ vs
  | _, _, .nil, _, p, hp => by cases hp
  | _ :: _, _ :: _, .cons h t, hc, p, hp => by
    rcases List.mem_cons.mp hp with e | q
    · rw [e, h.1]; exact hc _ (by simp)
    · exact PB.mem t (fun p hp => hc p (List.mem_cons_of_mem _ hp)) p q
section
variable {K : PySem.W.Frag} {mg : Str → Option Value} {S S1 S0 : Sx} {σ : L2.St} {env : Env}
theorem EnvRep.setN (h : EnvRep K mg S0 S σ env) (i : Nat) : EnvRep K mg S0 S (σ.set i none) (env.set i none) := by
  obtain ⟨hl, A, h1, h2, h3⟩ := h
  refine ⟨by simp [hl], A, fun j s e => ?_, h2, h3⟩
  by_cases z : j = i
  · subst z
    by_cases hi : j < env.length
    · rw [List.getElem?_set_self hi] at e; cases e
    · rw [List.getElem?_eq_none (by simpa using hi)] at e; cases e
  · rw [List.getElem?_set_ne (Ne.symm z)] at e ⊢
    exact h1 j s e
theorem EnvRep.wipe (h : EnvRep K mg S0 S σ env) : ∀ vs : List Nat, EnvRep K mg S0 S (wipe σ vs) (wipeE env vs)
  | [] => h
  | v :: vs => (EnvRep.wipe h vs).setN v
/-- a thing that S1 does not know changes -/
theorem SOk.mut (k : SOk K mg S) {p : Addr} (hG : S.G p = none) (hr : p ∉ S.r) (o : HO) : SOk K mg { S with H := upd S.H p o } where
  sub := fun a u e => by
    show upd S.H p o a = some u
    rw [upd_ne (ne_of_none e hG)]; exact k.sub a u e
  len := k.len
  nd := k.nd
  out := k.out
  here := fun n a ob h1 h2 => by
    have q := k.here n a ob h1 h2
    have z : a ≠ p := fun z => hr (z ▸ List.mem_of_getElem? h1)
    cases ob with
    | dk kvs =>
      obtain ⟨es, e, pr, hu⟩ := q
      exact ⟨es, by show upd S.H p o a = _; rw [upd_ne z]; exact e, pr, hu⟩
theorem Ext.mut (x : Ext S1 S) {p : Addr} (h : S1.H p = none) (o : HO) : Ext S1 { S with H := upd S.H p o } where
  me := x.me
  gle := x.gle
  pre := x.pre
  keep := fun a u e n => by
    show upd S.H p o a = some u
    rw [upd_ne (ne_of_none e h)]; exact x.keep a u e n
  nof := x.nof
  new := x.new
theorem Ext.fresh (x : Ext S S1) (k1 : SOk K mg S1) {p : Addr} (h : S1.H p = none) : S.H p = none := by
  cases e : S.H p with
  | none => rfl
  | some o =>
    by_cases hm : p ∈ S.r
    · obtain ⟨o', e'⟩ := k1.there (x.pre.subset hm)
      rw [e'] at h; cases h
    · rw [x.keep p o e hm] at h; cases h
/-- it no longer changes -/
theorem SOk.ice (k : SOk K mg S) {p : Addr} {o : HO} (h : S.H p = some o) (hr : p ∉ S.r) : SOk K mg (S.ice p o) where
  sub := fun a u e => by
    have e : upd S.G p o a = some u := e
    show S.H a = some u
    by_cases z : a = p
    · subst z
      rw [upd_same] at e
      rw [h]; exact e
    · rw [upd_ne z] at e
      exact k.sub a u e
  len := k.len
  nd := k.nd
  out := fun a hm => by
    show upd S.G p o a = none
    have z : a ≠ p := fun z => hr (z ▸ hm)
    rw [upd_ne z]; exact k.out a hm
  here := fun n a ob h1 h2 => by
    have q := k.here n a ob h1 h2
    cases ob with
    | dk kvs =>
      obtain ⟨es, e, pr, hu⟩ := q
      by_cases hg : S.G p = none
      · exact ⟨es, e, Paired.mapP pr fun _ _ z => ⟨z.1, z.2.mono (upd_mono hg) (List.prefix_refl _)⟩, hu⟩
      · refine ⟨es, e, Paired.mapP pr fun _ _ z => ⟨z.1, z.2.mono (fun b u eb => ?_) (List.prefix_refl _)⟩, hu⟩
        show upd S.G p o b = some u
        by_cases zz : b = p
        · subst zz
          rw [upd_same]
          have := k.sub _ _ eb
          rw [h] at this
          exact this
        · rw [upd_ne zz]; exact eb
theorem Ext.ice (x : Ext S1 S) (k : SOk K mg S) {p : Addr} {o : HO} (h : S1.H p = none) (hg : S.G p = none) : Ext S1 (S.ice p o) where
  me := x.me
  gle := fun a u e => by
    show upd S.G p o a = some u
    rw [upd_ne (ne_of_none (x.gle a u e) hg)]; exact x.gle a u e
  pre := x.pre
  keep := x.keep
  nof := fun a u e g => by
    show upd S.G p o a = none
    rw [upd_ne (ne_of_none e h)]; exact x.nof a u e g
  new := x.new
end
section
variable {X : Cx} {W : WX} {elt tg iter e : Expr} {ifs : List Expr} {scope : Scope} {own : List (Str × Nat)} {pos : Pos} {fi : EvL} {fc fe f : Ev} {t : Tg}
theorem dts_nil : Dts X W [] (sC (.bl true)) := fun S0 => ⟨fun pins s σ H Q I q => by
  obtain ⟨S, env, rfl, ok, er, b, e, z⟩ := q
  cases e
  exact pts_nil.run pins s σ S.H Q I (z S (Ext.refl S) ok rfl)⟩
theorem dts_one (h : Dt X W e f) : Dts X W [e] f := fun S0 => pts_one (h S0)
theorem lc_noex {env : Env} : ∀ {ds : List Dat} {st : Sto} {c : Str} {fs : List (Str × Dat)} {st' : Sto}, lcL t fc fe env ds st = .ex c fs st' → False
  | [], _, _, _, _, h => by cases h
  | d :: r, st, c, fs, st', h => by
    unfold lcL at h
    cases et : t d with
    | none => rw [et] at h; cases h
    | some bs =>
      rw [et] at h
      try dsimp only at h
      cases ec : fc (setE env bs) st with
      | bad => rw [ec] at h; cases h
      | ex _ _ _ => rw [ec] at h; cases h
      | ok dc st1 =>
        rw [ec] at h
        try dsimp only at h
        cases dc with
        | bl b =>
          cases b with
          | false => exact lc_noex h
          | true =>
            try dsimp only at h
            cases ee : fe (setE env bs) st1 with
            | bad => rw [ee] at h; cases h
            | ex _ _ _ => rw [ee] at h; cases h
            | ok y st2 =>
              rw [ee] at h
              try dsimp only at h
              cases el : lcL t fc fe env r st2 with
              | bad => rw [el] at h; cases h
              | ok _ _ => rw [el] at h; cases h
              | ex _ _ _ => exact lc_noex el
        | _ => cases h
/-- what a comprehension's loop asks -/
theorem lc_turns {K : PySem.W.Frag} {mg : Str → Option Value} {S0 S1 : Sx} {σ : L2.St} {env : Env} {vs : List Nat} {ds : List Dat} {J : It} {D : Addr} {Qd : Hp → Prop} {ys : List Dat} {st2 : Sto} (ok1 : SOk K mg S1) (er : EnvRep K mg S0 S1 σ env) (hv : TgIn t vs)
    (hlen : ds.length ≤ 1000000) (hl : lcL t fc fe (wipeE env vs) ds S1.st = .ok ys st2) (wk : Walks K mg J S1 ds) (hD : S1.H D = none)
    (hq : ∀ S2 accV, Ext S1 S2 → SOk K mg S2 → S2.st = st2 → S2.H D = some (.lst accV) → S2.G D = none → D ∉ S2.r → RepSL K mg S2 accV ys → Qd S2.H) :
    ∃ W : Nat → Nat → Hp → Prop, (∃ m, W 0 m (upd S1.H D (.lst []))) ∧ ∀ i m H, W i m H →
      (J.stop i H ∧ Qd H) ∨ (J.go i H ∧ ∃ Nx : Hp → Prop, (∀ H', Nx H' → ∃ m', m' < m ∧ W (i + 1) m' H') ∧ ∀ x H', J.yld i H x H' → gT K mg t x (wipe σ vs) H' fun σ2 H2 => wipe σ2 vs = wipe σ vs ∧ tT K mg S0 WF fc σ2 H2 fun b H3 =>
        if b = true then tE K mg S0 WF fe σ2 H3 fun y H4 => ∃ acc, H4 D = some (.lst acc) ∧ acc.length < sizeLine ∧ Nx (upd H4 D (.lst (acc ++ [y]))) else Nx H3) := by
  refine ⟨fun i m H => m = ds.length - i ∧ i ≤ ds.length ∧ ∃ (S2 : Sx) (accV : List V) (acc rest : List Dat), S2.H = H ∧ SOk K mg S2 ∧ Ext S1 S2 ∧ S2.H D = some (.lst accV) ∧ S2.G D = none ∧ D ∉ S2.r ∧ RepSL K mg S2 accV acc ∧ acc.length ≤ i ∧
    lcL t fc fe (wipeE env vs) (ds.drop i) S2.st = .ok rest st2 ∧ ys = acc ++ rest, ⟨ds.length, rfl, Nat.zero_le _, S1.lay D (.lst []), [], [], ys, rfl, ok1.lay hD _, Ext.lay ok1 hD _, upd_same, ok1.noG hD, ok1.nor hD, .nil, Nat.le_refl _, hl, rfl⟩, ?_⟩
  rintro i m H ⟨rfl, hi, S2, accV, acc, rest, rfl, ok2, x2, hD2, hG2, hr2, ra, hal, hl2, rfl⟩
  obtain ⟨wgo, wst⟩ := wk S2 x2.gx ok2
  by_cases hlt : i < ds.length
  · refine .inr ⟨(wgo i ds[i] (List.getElem?_eq_getElem hlt)).1, _, fun H' h' => ⟨ds.length - (i + 1), by omega, rfl, hlt, h'⟩, fun x H' y => ?_⟩
    obtain ⟨S3, rfl, x3, ok3, e3, r3⟩ := (wgo i ds[i] (List.getElem?_eq_getElem hlt)).2 x H' y
    rw [List.drop_eq_getElem_cons hlt] at hl2
    unfold lcL at hl2
    cases et : t ds[i] with
    | none => rw [et] at hl2; cases hl2
    | some bs =>
      rw [et] at hl2
      try dsimp only at hl2
      refine ⟨S3, ds[i], bs, rfl, ok3, r3, et, fun vbs pb => ⟨?_, ?_⟩⟩
      · rw [wipe_setV _ _ (pb.mem (hv _ _ et)), wipe_wipe σ vs vs fun _ h => h]
      · have x13 := Ext.trans ok2 x2 x3
        have er3 : EnvRep K mg S0 S3 (setV (wipe σ vs) vbs) (setE (wipeE env vs) bs) := ((er.ext x13).wipe vs).setAll pb
        have hD3 : S3.H D = some (.lst accV) := x3.keep D _ hD2 hr2
        have hG3 : S3.G D = none := x3.nof D _ hD2 hG2
        have hr3 : D ∉ S3.r := fun hm => by
          rcases x3.new D hm with q | q
          · exact hr2 q
          · rw [hD2] at q; cases q
        refine ⟨S3, _, rfl, ok3, er3, ?_⟩
        rw [e3]
        cases ec : fc (setE (wipeE env vs) bs) S2.st with
        | bad => rw [ec] at hl2; cases hl2
        | ex c fs st => rw [ec] at hl2; cases hl2
        | ok dc st3 =>
          rw [ec] at hl2
          try dsimp only at hl2
          cases dc with
          | bl b =>
            refine ⟨b, rfl, fun S4 x4 ok4 e4 => ?_⟩
            subst e4
            have hD4 : S4.H D = some (.lst accV) := x4.keep D _ hD3 hr3
            have hG4 : S4.G D = none := x4.nof D _ hD3 hG3
            have hr4 : D ∉ S4.r := fun hm => by
              rcases x4.new D hm with q | q
              · exact hr3 q
              · rw [hD3] at q; cases q
            have x14 := Ext.trans ok3 x13 x4
            cases b with
            | false =>
              rw [if_neg Bool.false_ne_true]
              exact ⟨S4, accV, acc, rest, rfl, ok4, x14, hD4, hG4, hr4, (ra.ext x3).ext x4, by omega, hl2, rfl⟩
            | true =>
              rw [if_pos rfl]
              refine ⟨S4, _, rfl, ok4, er3.ext x4, ?_⟩
              have hl2 : (match fe (setE (wipeE env vs) bs) S4.st with
                | .ok y st2' => (lcL t fc fe (wipeE env vs) (ds.drop (i + 1)) st2').bind fun ys st3 => .ok (y :: ys) st3
                | _ => .bad) = .ok rest st2 := hl2
              cases ee : fe (setE (wipeE env vs) bs) S4.st with
              | bad => rw [ee] at hl2; cases hl2
              | ex c fs st => rw [ee] at hl2; cases hl2
              | ok dy st5 =>
                rw [ee] at hl2
                intro y S5 x5 ok5 e5 r5
                subst e5
                have hl2 : (lcL t fc fe (wipeE env vs) (ds.drop (i + 1)) S5.st).bind (fun ys st3 => .ok (dy :: ys) st3) = .ok rest st2 := hl2
                cases er' : lcL t fc fe (wipeE env vs) (ds.drop (i + 1)) S5.st with
                | bad => rw [er'] at hl2; cases hl2
                | ex c fs st => rw [er'] at hl2; cases hl2
                | ok rest' st6 =>
                  rw [er'] at hl2
                  cases hl2
                  have hD5 : S5.H D = some (.lst accV) := x5.keep D _ hD4 hr4
                  have hG5 : S5.G D = none := x5.nof D _ hD4 hG4
                  have hr5 : D ∉ S5.r := fun hm => by
                    rcases x5.new D hm with q | q
                    · exact hr4 q
                    · rw [hD4] at q; cases q
                  have hav : accV.length = acc.length := ra.length
                  refine ⟨accV, hD5, by rw [hav, sizeLine_eq]; omega, { S5 with H := upd S5.H D (.lst (accV ++ [y])) }, accV ++ [y], acc ++ [dy], rest', rfl, ok5.mut hG5 hr5 _, (Ext.trans ok4 x14 x5).mut hD _, upd_same, hG5, hr5,
                    (show RepSL K mg S5 (accV ++ [y]) (acc ++ [dy]) from RepL.append (((ra.ext x3).ext x4).ext x5) (.cons r5 .nil)), by rw [List.length_append]; show acc.length + 1 ≤ i + 1; omega, er', by simp⟩
          | _ => cases hl2
  · have e : i = ds.length := by omega
    subst e
    refine .inl ⟨wst, ?_⟩
    rw [List.drop_length] at hl2
    cases hl2
    rw [List.append_nil] at hq
    exact hq S2 accV x2 ok2 rfl hD2 hG2 hr2 ra
theorem d_lc (hc : X.calm = true) (hN : X.N.Nodup) (hi : Di X W tg iter fi) (ok : BlkOk X.N X.env.scope scope own)
    (hg : ∀ (s : Shared) (H : Hp) (C : Addr) (cl : List (Str × Addr)) (fp : List Addr), Dg (X.blk s H scope (compEnvC scope cl C X.env) fp) tg t) (ht : ∀ (s : Shared) (H : Hp) (C : Addr) (cl : List (Str × Addr)) (fp : List Addr), Dts (X.blk s H scope (compEnvC scope cl C X.env) fp) WF ifs fc)
    (he : ∀ (s : Shared) (H : Hp) (C : Addr) (cl : List (Str × Addr)) (fp : List Addr), De (X.blk s H scope (compEnvC scope cl C X.env) fp) WF elt fe) (hv : TgIn t (own.map (·.2))) (hs : ∀ x, foldedSetIterable iter X.env x = pure x := by intro _; rfl) :
    De X W (.ListComp elt [⟨tg, iter, ifs, 0⟩] scope pos) (sLc t fi fc fe (own.map (·.2))) := fun S0 => by
  refine peW (pe_lc (g := gT X.K X.mg t) (tt := tT X.K X.mg S0 WF fc) (te := tE X.K X.mg S0 WF fe) hc hN (hi S0) ok (fun s H C cl fp => hg s H C cl fp) (fun s H C cl fp => ht s H C cl fp S0) (fun s H C cl fp => he s H C cl fp S0) hs) fun σ H Q q => ?_
  obtain ⟨S, env, rfl, ok, er, q⟩ := q
  refine ⟨S, env, rfl, ok, er, q.imp fun ds st q1 J S1 x1 ok1 e1 wk D hD => ?_⟩
  subst e1
  by_cases hm : many ds = true
  · rw [if_pos hm] at q1
    cases hl : lcL t fc fe (wipeE env (own.map (·.2))) ds S1.st with
    | bad => rw [hl] at q1; exact q1.elim
    | ex c fs st =>
      exfalso
      exact lc_noex hl
    | ok ys st2 =>
      rw [hl] at q1
      refine lc_turns ok1 (er.ext x1) hv (of_decide_eq_true hm) hl wk hD fun S2 accV x2 ok2 e2 hD2 hG2 hr2 ra => ?_
      exact q1 (.ref D) (S2.ice D (.lst accV)) (Ext.ice (Ext.trans ok1 x1 x2) ok2 (x1.fresh ok1 hD) hG2) (ok2.ice hD2 hr2) e2 (.lst upd_same (ra.mono (upd_mono hG2) (List.prefix_refl _)))
  · rw [if_neg hm] at q1
    exact q1.elim
end
end GI
set_option Elab.async false
set_option linter.all false
set_option maxRecDepth 100000
set_option maxHeartbeats 2000000
namespace GI
open PySem PySem.Spec PyProof.Rows L2
section
variable {K : PySem.W.Frag} {mg : Str → Option Value} {S S1 S0 : Sx} {σ : L2.St} {env : Env}
theorem set_same_get {α : Type} {l : List α} {i : Nat} {x : α} (h : l[i]? = some x) : l.set i x = l := by
  apply List.ext_getElem?
  intro j
  by_cases z : i = j
  · subst z
    rw [List.getElem?_set_self (List.getElem?_eq_some_iff.mp h).1, h]
  · rw [List.getElem?_set_ne z]
theorem EnvRep.own (h : EnvRep K mg S0 S σ env) {i : Nat} {ds : List Dat} (e : env[i]? = some (some (.ow ds))) :
    ∃ p vs, σ[i]? = some (some (.ref p)) ∧ S.H p = some (.lst vs) ∧ RepSL K mg S vs ds ∧ S0.H p = none ∧ S.G p = none ∧ p ∉ S.r := by
  obtain ⟨hl, A, h1, h2, h3⟩ := h
  obtain ⟨v, e1, p, vs, ea, rfl, hp, r⟩ := h1 i _ e
  obtain ⟨a1, a2, a3, _⟩ := h2 i p (by rw [ea]; simp)
  exact ⟨p, vs, e1, hp, r, a1, a2, a3⟩
/-- the list of slot i changes in place -/
theorem EnvRep.mutO (h : EnvRep K mg S0 S σ env) {i : Nat} {ds ds' : List Dat} {p : Addr} {vs' : List V} (e : env[i]? = some (some (.ow ds))) (ep : σ[i]? = some (some (.ref p))) (r : RepSL K mg S vs' ds') :
    EnvRep K mg S0 { S with H := upd S.H p (.lst vs') } σ (env.set i (some (.ow ds'))) := by
  obtain ⟨hl, A, h1, h2, h3⟩ := h
  obtain ⟨v, e1, p', vs, ea, rfl, hp, r0⟩ := h1 i _ e
  rw [ep] at e1
  cases e1
  have far : ∀ (j : Nat) (a : Addr), j ≠ i → a ∈ A j → a ≠ p := fun j a z ha q => z (h3 j i p (q ▸ ha) (by rw [ea]; simp))
  refine ⟨by simp [hl], A, fun j s es => ?_, fun j a ha => ?_, h3⟩
  · by_cases z : j = i
    · subst z
      have hi := (List.getElem?_eq_some_iff.mp e).1
      rw [List.getElem?_set_self hi] at es
      cases es
      exact ⟨.ref p, ep, p, vs', ea, rfl, upd_same, r⟩
    · rw [List.getElem?_set_ne (Ne.symm z)] at es
      obtain ⟨v, e1, q⟩ := h1 j s es
      refine ⟨v, e1, ?_⟩
      refine SlotRep.agree (S := S) q ⟨fun _ _ h => h, List.prefix_refl _, rfl⟩ fun p2 hp2 o e2 => ?_
      show upd S.H p _ p2 = _
      rw [upd_ne (far j p2 z hp2)]
      exact e2
  · obtain ⟨a1, a2, a3, o, a4⟩ := h2 j a ha
    refine ⟨a1, a2, a3, ?_⟩
    by_cases z : a = p
    · subst z; exact ⟨_, upd_same⟩
    · exact ⟨o, by show upd S.H p _ a = _; rw [upd_ne z]; exact a4⟩
/-- the list of slot i is let go: it no longer changes -/
theorem EnvRep.letGo (h : EnvRep K mg S0 S σ env) {i : Nat} {ds : List Dat} {p : Addr} {vs : List V} (e : env[i]? = some (some (.ow ds))) (ep : σ[i]? = some (some (.ref p))) (hv : S.H p = some (.lst vs)) (r : RepSL K mg S vs ds) (hg : S.G p = none) :
    EnvRep K mg S0 (S.ice p (.lst vs)) σ (env.set i (some (.sh (.lst ds)))) := by
  obtain ⟨hl, A, h1, h2, h3⟩ := h
  obtain ⟨v, e1, p', vs0, ea, rfl, hp, r0⟩ := h1 i _ e
  rw [ep] at e1
  cases e1
  have gm := upd_mono (o := HO.lst vs) hg
  have far : ∀ (j : Nat) (a : Addr), j ≠ i → a ∈ A j → a ≠ p := fun j a z ha q => z (h3 j i p (q ▸ ha) (by rw [ea]; simp))
  refine ⟨by simp [hl], updA A i [], fun j s es => ?_, fun j a ha => ?_, fun j k a hj hk => ?_⟩
  · by_cases z : j = i
    · subst z
      have hi := (List.getElem?_eq_some_iff.mp e).1
      rw [List.getElem?_set_self hi] at es
      cases es
      refine ⟨.ref p, ep, ?_⟩
      rw [updA_same]
      exact ⟨rfl, .lst upd_same (r.mono gm (List.prefix_refl _))⟩
    · rw [List.getElem?_set_ne (Ne.symm z)] at es
      obtain ⟨v, e1, q⟩ := h1 j s es
      refine ⟨v, e1, ?_⟩
      rw [updA_ne z]
      exact SlotRep.agree (S := S) q ⟨gm, List.prefix_refl _, rfl⟩ fun p2 hp2 o e2 => e2
  · by_cases z : j = i
    · subst z; rw [updA_same] at ha; cases ha
    · rw [updA_ne z] at ha
      obtain ⟨a1, a2, a3, o, a4⟩ := h2 j a ha
      refine ⟨a1, ?_, a3, o, a4⟩
      show upd S.G p _ a = none
      rw [upd_ne (far j a z ha)]
      exact a2
  · by_cases z : j = i
    · subst z; rw [updA_same] at hj; cases hj
    · by_cases z2 : k = i
      · subst z2; rw [updA_same] at hk; cases hk
      · rw [updA_ne z] at hj
        rw [updA_ne z2] at hk
        exact h3 j k a hj hk
end
def relE (env : Env) (i : Nat) : Env := match env[i]? with
  | some (some (.ow ds)) => env.set i (some (.sh (.lst ds)))
  | _ => env
/-- ahead of a statement the list of slot i is let go -/
def sRel (i : Nat) (f : Exe) : Exe := fun env st => f (relE env i) st
section
variable {X : Cx} {W : WX} {e : Expr} {f : Ev} {pos : Pos} {st : Stmt} {sts : List Stmt} {g : Exe}
theorem tS_rel {K : PySem.W.Frag} {mg : Str → Option Value} {S0 : Sx} {i : Nat} {D : Ends} {σ : L2.St} {H : Hp} (q : tS K mg S0 W (sRel i g) D σ H) : tS K mg S0 W g D σ H := by
  rw [tS_eq] at q
  obtain ⟨S, env, rfl, ok, er, x, q⟩ := q
  unfold sRel relE at q
  cases e : env[i]? with
  | none => rw [e] at q; exact ⟨S, env, rfl, ok, er, x, q⟩
  | some os =>
    rw [e] at q
    cases os with
    | none => exact ⟨S, env, rfl, ok, er, x, q⟩
    | some s =>
      cases s with
      | sh d => exact ⟨S, env, rfl, ok, er, x, q⟩
      | ob c es => exact ⟨S, env, rfl, ok, er, x, q⟩
      | ow ds =>
        obtain ⟨p, vs, ep, hv, r, h0, hg, hr⟩ := er.own e
        exact ⟨S.ice p (.lst vs), _, rfl, ok.ice hv hr, er.letGo e ep hv r hg, Ext.ice x ok h0 hg, outS.later q ⟨upd_mono hg, List.prefix_refl _, rfl⟩⟩
theorem ds_rel (i : Nat) (h : Ds X W st g) : Ds X W st (sRel i g) := fun S0 => psW (h S0) fun D σ H q => tS_rel q
theorem dss_rel (i : Nat) (h : Dss X W sts g) : Dss X W sts (sRel i g) := fun S0 => pssW (h S0) fun D σ H q => tS_rel q
def sApp (i : Nat) (f : Ev) : Exe := fun env st => match env[i]? with
  | some (some (.ow ds)) => (f env st).go env fun d st1 => if many ds then .nx (env.set i (some (.ow (ds ++ [d])))) st1 else .bad
  | _ => .bad
theorem many_lt {ds : List Dat} (h : many ds = true) : ds.length < sizeLine := by
  have := of_decide_eq_true h
  rw [sizeLine_eq]
  omega
theorem ds_app {x : Str} {pn ap cp : Pos} (i : Nat) (he : De X W e f) (hN : X.N[i]? = some x := by rfl) (hv : Vis X.env.scope x := by first | exact Or.inl rfl | exact Or.inr (Or.inl rfl) | exact Or.inr (Or.inr rfl)) (hd : (x == ("__debug__" : Str)) = false := by decide)
    (hcd : (x == ("__classdict__" : Str)) = false := by decide) (hbase : attributeBase (.Name x pn) "append" X.env (eval (.Name x pn) X.env) = eval (.Name x pn) X.env := by rfl)
    (hfew : ((backTo cp (starEach [e] X.env)).all (fun x => !x.1) && (backToKw cp (keywordEach [] X.env)).all (fun x => x.1.isSome) && decide ([e].length + ([] : List Keyword).length + (if ([] : List Keyword).isEmpty then 0 else 1) < 30)) = true := by rfl)
    (hline : (ap.endLine == cp.line) = true := by rfl) (hs : starEach [e] X.env = (false, eval e X.env) :: starEach [] X.env := by rfl) (hplain : (backTo cp (starEach [] X.env)).any (·.1) = false := by rfl)
    (hsw : swapsWith (.Call (.Attribute (.Name x pn) "append" ap) [e] [] cp) none pos.line X.env = pure false := by rfl) : Ds X W (.Expr (.Call (.Attribute (.Name x pn) "append" ap) [e] [] cp) pos) (sApp i f) := fun S0 => by
  refine psW (ps_expr (pe_bm PySem.F.plainAttrs_list PySem.F.slot_list_append PySem.F.type_list_append mt_append (pe_var hN hv hd hcd) (pa_cons (he S0) pa_nil hs) hbase hfew hline hs hplain) hsw) fun D σ H q => ?_
  rw [tS_eq] at q
  obtain ⟨S, env, rfl, ok, er, x, q⟩ := q
  unfold sApp at q
  cases eo : env[i]? with
  | none => rw [eo] at q; exact q.elim
  | some os =>
    rw [eo] at q
    cases os with
    | none => exact q.elim
    | some s =>
      cases s with
      | sh d => exact q.elim
      | ob c es => exact q.elim
      | ow ds =>
        obtain ⟨p, vs, ep, hv, r, h0, hg, hr⟩ := er.own eo
        refine ⟨.ref p, ep, .inl ⟨rfl, vs, .inl (.inl hv)⟩, S, env, rfl, ok, er, outS.of ok er x q fun d st1 z y S1 x1 ok1 e1 r1 => ?_⟩
        by_cases hm : many ds = true
        · rw [if_pos hm] at z
          have hv1 : S1.H p = some (.lst vs) := x1.keep p _ hv hr
          have hr1 : p ∉ S1.r := fun q => by
            rcases x1.new p q with q | q
            · exact hr q
            · rw [hv] at q; cases q
          have hg1 : S1.G p = none := x1.nof p _ hv hg
          refine ⟨p, vs, y, rfl, rfl, hv1, by rw [r.length]; exact many_lt hm, ?_⟩
          exact z σ { S1 with H := upd S1.H p (.lst (vs ++ [y])) } (ok1.mut hg1 hr1 _) ⟨(Ext.trans ok x x1).mut h0 _, ⟨x1.gle, x1.pre, x1.me⟩⟩ e1 ((er.ext x1).mutO eo ep ((r.ext x1).append (.cons r1 .nil)))
        · rw [if_neg hm] at z
          exact z.elim
/-- the reading of an expression that gives a new list -/
def tF (K : PySem.W.Frag) (mg : Str → Option Value) (S0 : Sx) (W : WX) (f : EvL) : TE := fun σ H Q => ∃ S env, S.H = H ∧ SOk K mg S ∧ EnvRep K mg S0 S σ env ∧
  outE K mg W σ S (f env S.st) fun ds st => ∀ p vs S', Ext S S' → SOk K mg S' → S'.st = st → S.H p = none → S'.H p = some (.lst vs) → S'.G p = none → p ∉ S'.r → RepSL K mg S' vs ds → Q (.ref p) S'.H
def Df (X : Cx) (W : WX) (e : Expr) (f : EvL) : Prop := ∀ S0, PE X e (tF X.K X.mg S0 W f)
def sAsgO (i : Nat) (f : EvL) : Exe := fun env st => (f env st).go env fun ds st1 => .nx (env.set i (some (.ow ds))) st1
theorem ds_setO {fl : EvL} {i : Nat} {x : Str} {pos' : Pos} (hN : X.N.Nodup) (hi : X.N[i]? = some x) (hx : Loc X.env.scope x) (he : Df X W e fl) (hs : swapsWith e (some (.Name x pos')) pos.line X.env = pure false := by rfl)
    (hf : X.fn x = true ∨ X.env.scope.names.lookup x = some .local := by first | exact .inl rfl | exact .inr rfl | assumption) : Ds X W (.Assign [.Name x pos'] e pos) (sAsgO i fl) := fun S0 => by
  refine psW (ps_set hN hi hx (he S0) hs hf) fun D σ H q => ?_
  rw [tS_eq] at q
  obtain ⟨S, env, rfl, ok, er, x, q⟩ := q
  refine ⟨S, env, rfl, ok, er, outS.of ok er x q fun ds st z p vs S' xx ok' es hp hv hg hr r => ?_⟩
  refine z _ S' ok' ⟨Ext.trans ok x xx, xx.gx⟩ es (er.put xx i (B := [p]) ⟨p, vs, rfl, rfl, hv, r⟩ (fun a ha => ?_) fun a ha => ?_)
  · have e : a = p := by simpa using ha
    subst e
    exact ⟨x.fresh ok hp, hg, hr, _, hv⟩
  · have e : a = p := by simpa using ha
    subst e
    exact .inl hp
theorem df_lst {es : List Expr} {fl : EvL} (h : Des X W es fl) : Df X W (.List es pos) (fun env st => (fl env st).bind fun ds st1 => if few ds then .ok ds st1 else .bad) := fun S0 => by
  refine peW (pe_lst (h S0)) fun σ H Q q => ?_
  obtain ⟨S, env, rfl, ok, er, q⟩ := q
  refine ⟨S, env, rfl, ok, er, q.imp fun ds st1 q1 vs S1 x1 ok1 e1 r1 => ?_⟩
  subst e1
  by_cases z : few ds = true
  · rw [if_pos z] at q1
    exact ⟨by rw [r1.length]; exact few_le z, fun p hp => q1 p vs (S1.lay p (.lst vs)) (Ext.trans ok1 x1 (Ext.lay ok1 hp _)) (ok1.lay hp _) rfl (x1.fresh ok1 hp) upd_same (ok1.noG hp) (ok1.nor hp) r1⟩
  · rw [if_neg z] at q1
    exact q1.elim
abbrev EvS := Env → Sto → Out (List Slot)
def slNil : EvS := fun _ st => .ok [] st
def slSh (f : Ev) (r : EvS) : EvS := fun env st => (f env st).bind fun d st1 => (r env st1).bind fun ss st2 => .ok (.sh d :: ss) st2
def slOw (f : EvL) (r : EvS) : EvS := fun env st => (f env st).bind fun ds st1 => (r env st1).bind fun ss st2 => .ok (.ow ds :: ss) st2
/-- values for slots: B tells the new lists, none twice -/
inductive SlL (K : PySem.W.Frag) (mg : Str → Option Value) (S S' : Sx) : List V → List Slot → List (List Addr) → Prop
  | nil : SlL K mg S S' [] [] []
  | cons {v : V} {vs : List V} {s : Slot} {ss : List Slot} {B : List Addr} {Bs : List (List Addr)} : SlotRep K mg S' v B s → (∀ p ∈ B, S.H p = none ∧ S'.G p = none ∧ p ∉ S'.r ∧ ∃ o, S'.H p = some o) → (∀ p ∈ B, ∀ C ∈ Bs, p ∉ C) → SlL K mg S S' vs ss Bs → SlL K mg S S' (v :: vs) (s :: ss) (B :: Bs)
def tSl (K : PySem.W.Frag) (mg : Str → Option Value) (S0 : Sx) (W : WX) (f : EvS) : TA := fun σ H Q => ∃ S env, S.H = H ∧ SOk K mg S ∧ EnvRep K mg S0 S σ env ∧
  outE K mg W σ S (f env S.st) fun ss st => ∀ vs S' Bs, Ext S S' → SOk K mg S' → S'.st = st → SlL K mg S S' vs ss Bs → Q vs S'.H
def Dsl (X : Cx) (W : WX) (es : List Expr) (f : EvS) : Prop := ∀ S0, PA X es (tSl X.K X.mg S0 W f)
theorem SlL.back {K : PySem.W.Frag} {mg : Str → Option Value} {S S1 S' : Sx} (x : Ext S S1) (k1 : SOk K mg S1) : ∀ {vs : List V} {ss : List Slot} {Bs : List (List Addr)}, SlL K mg S1 S' vs ss Bs → SlL K mg S S' vs ss Bs
  | _, _, _, .nil => .nil
  | _, _, _, .cons h1 h2 h3 h4 => .cons h1 (fun p hp => ⟨x.fresh k1 (h2 p hp).1, (h2 p hp).2⟩) h3 (SlL.back x k1 h4)
theorem SlL.far {K : PySem.W.Frag} {mg : Str → Option Value} {S S' : Sx} {p : Addr} {o : HO} (h : S.H p = some o) : ∀ {vs : List V} {ss : List Slot} {Bs : List (List Addr)}, SlL K mg S S' vs ss Bs → ∀ C ∈ Bs, p ∉ C
  | _, _, _, .nil, C, hC => by cases hC
  | _, _, _, .cons h1 h2 h3 h4, C, hC => fun hp => by
    rcases List.mem_cons.mp hC with e | q
    · subst e
      rw [(h2 p hp).1] at h; cases h
    · exact SlL.far h h4 C q hp
theorem dsl_nil : Dsl X W [] slNil := fun S0 => by
  refine paW pa_nil fun σ H Q q => ?_
  obtain ⟨S, env, rfl, ok, er, q⟩ := q
  exact q [] S [] (Ext.refl S) ok rfl .nil
theorem dsl_sh {es : List Expr} {fs : EvS} (ha : De X W e f) (hr : Dsl X W es fs) (hs : starEach (e :: es) X.env = (false, eval e X.env) :: starEach es X.env := by rfl) : Dsl X W (e :: es) (slSh f fs) := fun S0 => by
  refine paW (pa_cons (ha S0) (hr S0) hs) fun σ H Q q => ?_
  obtain ⟨S, env, rfl, ok, er, q⟩ := q
  refine ⟨S, env, rfl, ok, er, q.imp fun dx st1 q1 x S1 x1 ok1 e1 r1 => ?_⟩
  subst e1
  refine ⟨S1, env, rfl, ok1, er.ext x1, outE.imp (q1.later ok1 x1 fun d st z v S' Bs xx ok' => z v S' Bs (Ext.trans ok1 x1 xx) ok') fun ds st2 q2 vs S2 Bs x2 ok2 e2 r2 => ?_⟩
  exact q2 (x :: vs) S2 ([] :: Bs) x2 ok2 e2 (.cons ⟨rfl, r1.ext x2⟩ (fun p hp => nomatch hp) (fun p hp => nomatch hp) (r2.back x1 ok1))
theorem dsl_ow {es : List Expr} {fs : EvS} {fl : EvL} (ha : Df X W e fl) (hr : Dsl X W es fs) (hs : starEach (e :: es) X.env = (false, eval e X.env) :: starEach es X.env := by rfl) : Dsl X W (e :: es) (slOw fl fs) := fun S0 => by
  refine paW (pa_cons (ha S0) (hr S0) hs) fun σ H Q q => ?_
  obtain ⟨S, env, rfl, ok, er, q⟩ := q
  refine ⟨S, env, rfl, ok, er, q.imp fun dx st1 q1 p vs0 S1 x1 ok1 e1 hp hv hg hr1 r1 => ?_⟩
  subst e1
  refine ⟨S1, env, rfl, ok1, er.ext x1, outE.imp (q1.later ok1 x1 fun d st z v S' Bs xx ok' => z v S' Bs (Ext.trans ok1 x1 xx) ok') fun ds st2 q2 vs S2 Bs x2 ok2 e2 r2 => ?_⟩
  have hv2 : S2.H p = some (.lst vs0) := x2.keep p _ hv hr1
  refine q2 (.ref p :: vs) S2 ([p] :: Bs) x2 ok2 e2 (.cons ⟨p, vs0, rfl, rfl, hv2, r1.ext x2⟩ (fun a ha => ?_) (fun a ha => ?_) (r2.back x1 ok1))
  · have e : a = p := by simpa using ha
    subst e
    refine ⟨hp, x2.nof a _ hv hg, fun q => ?_, _, hv2⟩
    rcases x2.new a q with q | q
    · exact hr1 q
    · rw [hv] at q; cases q
  · have e : a = p := by simpa using ha
    subst e
    exact fun C hC => r2.far hv C hC
def setS : Env → List Nat → List Slot → Env
  | env, i :: is, s :: ss => setS (env.set i (some s)) is ss
  | env, _, _ => env
def setW : L2.St → List Nat → List V → L2.St
  | σ, i :: is, v :: vs => setW (σ.set i (some v)) is vs
  | σ, _, _ => σ
/-- the slots' things by A -/
def EnvA (K : PySem.W.Frag) (mg : Str → Option Value) (S0 S : Sx) (σ : L2.St) (env : Env) (A : Nat → List Addr) : Prop := σ.length = env.length ∧ (∀ (i : Nat) (s : Slot), env[i]? = some (some s) → ∃ v, σ[i]? = some (some v) ∧ SlotRep K mg S v (A i) s) ∧
    (∀ (i : Nat) (p : Addr), p ∈ A i → S0.H p = none ∧ S.G p = none ∧ p ∉ S.r ∧ ∃ o, S.H p = some o) ∧ ∀ (i j : Nat) (p : Addr), p ∈ A i → p ∈ A j → i = j
theorem EnvA.put {K : PySem.W.Frag} {mg : Str → Option Value} {S0 S : Sx} {σ : L2.St} {env : Env} {A : Nat → List Addr} (h : EnvA K mg S0 S σ env A) (i : Nat) {v : V} {s : Slot} {B : List Addr} (q : SlotRep K mg S v B s)
    (hB : ∀ p ∈ B, S0.H p = none ∧ S.G p = none ∧ p ∉ S.r ∧ ∃ o, S.H p = some o) (far : ∀ p ∈ B, ∀ j, p ∉ A j) : EnvA K mg S0 S (σ.set i (some v)) (env.set i (some s)) (updA A i B) := by
  obtain ⟨hl, h1, h2, h3⟩ := h
  refine ⟨by simp [hl], fun j s' e => ?_, fun j p hp => ?_, fun j k p hj hk => ?_⟩
  · by_cases z : j = i
    · subst z
      by_cases hi : j < env.length
      · rw [List.getElem?_set_self hi] at e
        cases e
        refine ⟨v, by rw [List.getElem?_set_self (by omega)], ?_⟩
        rw [updA_same]
        exact q
      · rw [List.getElem?_eq_none (by simpa using hi)] at e; cases e
    · rw [List.getElem?_set_ne (Ne.symm z)] at e
      obtain ⟨v', e1, q1⟩ := h1 j s' e
      refine ⟨v', by rw [List.getElem?_set_ne (Ne.symm z)]; exact e1, ?_⟩
      rw [updA_ne z]
      exact q1
  · by_cases z : j = i
    · subst z
      rw [updA_same] at hp
      exact hB p hp
    · rw [updA_ne z] at hp; exact h2 j p hp
  · by_cases z : j = i
    · subst z
      rw [updA_same] at hj
      by_cases z2 : k = j
      · exact z2.symm
      · rw [updA_ne z2] at hk
        exact absurd hk (far p hj k)
    · rw [updA_ne z] at hj
      by_cases z2 : k = i
      · subst z2
        rw [updA_same] at hk
        exact absurd hj (far p hk j)
      · rw [updA_ne z2] at hk
        exact h3 j k p hj hk
theorem EnvA.putAll {K : PySem.W.Frag} {mg : Str → Option Value} {S0 S S' : Sx} (h0 : ∀ p, S.H p = none → S0.H p = none) : ∀ {vs : List V} {ss : List Slot} {Bs : List (List Addr)} (is : List Nat) {σ : L2.St} {env : Env} {A : Nat → List Addr}, SlL K mg S S' vs ss Bs → EnvA K mg S0 S' σ env A →
    (∀ B ∈ Bs, ∀ p ∈ B, ∀ j, p ∉ A j) → EnvRep K mg S0 S' (setW σ is vs) (setS env is ss)
  | _, _, _, [], σ, env, A, h, ea, _ => by
    cases h <;> exact ⟨ea.1, A, ea.2⟩
  | _, _, _, i :: is, σ, env, A, .nil, ea, _ => ⟨ea.1, A, ea.2⟩
  | _, _, _, i :: is, σ, env, A, .cons h1 h2 h3 h4, ea, far => by
    refine EnvA.putAll h0 is h4 (ea.put i h1 (fun p hp => ⟨h0 p (h2 p hp).1, (h2 p hp).2⟩) fun p hp j => far _ (by simp) p hp j) fun C hC p hp j => ?_
    by_cases z : j = i
    · subst z
      rw [updA_same]
      exact fun q => h3 p q C hC hp
    · rw [updA_ne z]
      exact far C (List.mem_cons_of_mem _ hC) p hp j
def sPar (is : List Nat) (f : EvS) : Exe := fun env st => (f env st).go env fun ss st1 => if ss.length = is.length then .nx (setS env is ss) st1 else .bad
theorem par_end {K : PySem.W.Frag} {mg : Str → Option Value} {S0 S S' : Sx} {σ : L2.St} {env : Env} {is : List Nat} {vs : List V} {ss : List Slot} {Bs : List (List Addr)} (ok : SOk K mg S) (x0 : Ext S0 S) (er : EnvRep K mg S0 S σ env) (x : Ext S S') (h : SlL K mg S S' vs ss Bs) : EnvRep K mg S0 S' (setW σ is vs) (setS env is ss) := by
  obtain ⟨hl, A, h1, h2, h3⟩ := er
  have er' : EnvRep K mg S0 S σ env := ⟨hl, A, h1, h2, h3⟩
  refine EnvA.putAll (fun p hp => x0.fresh ok hp) is h (A := A) ⟨hl, fun i s e => ?_, fun i p hp => ?_, h3⟩ fun C hC p hp j hj => ?_
  · obtain ⟨v, e1, q⟩ := h1 i s e
    exact ⟨v, e1, q.ext x fun p hp => (h2 i p hp).2.2.1⟩
  · obtain ⟨a1, a2, a3, o, a4⟩ := h2 i p hp
    refine ⟨a1, x.nof _ _ a4 a2, fun hm => ?_, o, x.keep _ _ a4 a3⟩
    rcases x.new p hm with q | q
    · exact a3 q
    · rw [a4] at q; cases q
  · obtain ⟨_, _, _, o, a4⟩ := h2 j p hj
    exact h.far a4 C hC hp
theorem SlL.length {K : PySem.W.Frag} {mg : Str → Option Value} {S S' : Sx} : ∀ {vs : List V} {ss : List Slot} {Bs : List (List Addr)}, SlL K mg S S' vs ss Bs → vs.length = ss.length
  | _, _, _, .nil => rfl
  | _, _, _, .cons _ _ _ h => congrArg (· + 1) h.length
theorem ds_par2 {fs : EvS} {i j : Nat} {x y : Str} {a b : Expr} {px py pt : Pos} {kt k2 pt2} (hc : X.calm = true) (hN : X.N.Nodup) (hi : X.N[i]? = some x) (hj : X.N[j]? = some y) (hij : i ≠ j)
    (hx : X.env.scope.names.lookup x = some .local) (hy : X.env.scope.names.lookup y = some .local) (ha : Dsl X W [a, b] fs)
    (hw : swappedStores [.Tuple [.Name x px, .Name y py] kt pt] (.Tuple [a, b] k2 pt2) X.env = pure (some [x, y]))
    (hs : swapsWithSole [.Tuple [.Name x px, .Name y py] kt pt] (.Tuple [a, b] k2 pt2) pos.line X.env = pure false := by rfl) :
    Ds X W (.Assign [.Tuple [.Name x px, .Name y py] kt pt] (.Tuple [a, b] k2 pt2) pos) (sPar [i, j] fs) := fun S0 => by
  refine psW (ps_par hc hN hi hj hij hx hy (ha S0) hw hs) fun D σ H q => ?_
  rw [tS_eq] at q
  obtain ⟨S, env, rfl, ok, er, x, q⟩ := q
  refine ⟨S, env, rfl, ok, er, outS.of ok er x q fun ss st z vs S' Bs xx ok' es h => ?_⟩
  by_cases hl : ss.length = [i, j].length
  · rw [if_pos hl] at z
    have hl2 : vs.length = 2 := h.length.trans hl
    obtain ⟨v, w, rfl⟩ : ∃ v w, vs = [v, w] := by
      match vs, hl2 with
      | [v, w], _ => exact ⟨v, w, rfl⟩
    exact ⟨v, w, rfl, z _ S' ok' ⟨Ext.trans ok x xx, xx.gx⟩ es (par_end (is := [i, j]) ok x er xx h)⟩
  · rw [if_neg hl] at z
    exact z.elim
theorem ds_par3 {fs : EvS} {i j l : Nat} {x y z : Str} {a b c : Expr} {px py pz pt : Pos} {kt k2 pt2} (hc : X.calm = true) (hN : X.N.Nodup) (hi : X.N[i]? = some x) (hj : X.N[j]? = some y) (hl : X.N[l]? = some z) (hij : i ≠ j) (hil : i ≠ l) (hjl : j ≠ l)
    (hx : X.env.scope.names.lookup x = some .local) (hy : X.env.scope.names.lookup y = some .local) (hz : X.env.scope.names.lookup z = some .local) (ha : Dsl X W [a, b, c] fs)
    (hw : swappedStores [.Tuple [.Name x px, .Name y py, .Name z pz] kt pt] (.Tuple [a, b, c] k2 pt2) X.env = pure (some [x, y, z]))
    (hs : swapsWithSole [.Tuple [.Name x px, .Name y py, .Name z pz] kt pt] (.Tuple [a, b, c] k2 pt2) pos.line X.env = pure false := by rfl) :
    Ds X W (.Assign [.Tuple [.Name x px, .Name y py, .Name z pz] kt pt] (.Tuple [a, b, c] k2 pt2) pos) (sPar [i, j, l] fs) := fun S0 => by
  refine psW (ps_par3 hc hN hi hj hl hij hil hjl hx hy hz (ha S0) hw hs) fun D σ H q => ?_
  rw [tS_eq] at q
  obtain ⟨S, env, rfl, ok, er, x, q⟩ := q
  refine ⟨S, env, rfl, ok, er, outS.of ok er x q fun ss st z vs S' Bs xx ok' es h => ?_⟩
  by_cases hl : ss.length = [i, j, l].length
  · rw [if_pos hl] at z
    have hl2 : vs.length = 3 := h.length.trans hl
    obtain ⟨u, v, w, rfl⟩ : ∃ u v w, vs = [u, v, w] := by
      match vs, hl2 with
      | [u, v, w], _ => exact ⟨u, v, w, rfl⟩
    exact ⟨u, v, w, rfl, z _ S' ok' ⟨Ext.trans ok x xx, xx.gx⟩ es (par_end (is := [i, j, l]) ok x er xx h)⟩
  · rw [if_neg hl] at z
    exact z.elim
end
end GI
set_option Elab.async false
set_option linter.all false
set_option maxRecDepth 100000
set_option maxHeartbeats 2000000
namespace GI
open PySem PySem.Spec PyProof.Rows L2
def big64 : Int := 18446744073709551616
def mulOk (i j : Int) : Bool := decide ((-big64 < i ∧ i < big64) ∨ (-big64 < j ∧ j < big64))
def divOk (j : Int) : Bool := decide (0 < j ∧ j < big64)
def powOk (i j : Int) : Bool := decide (0 ≤ j ∧ j ≤ 1000000 ∧ -big64 < i ∧ i < big64)
def dSub : Dat → Dat → Option Dat
  | .int i, .int j => some (.int (i - j))
  | _, _ => none
def dMulI : Dat → Dat → Option Dat
  | .int i, .int j => if mulOk i j then some (.int (i * j)) else none
  | _, _ => none
def dFdiv : Dat → Dat → Option Dat
  | .int i, .int j => if divOk j then some (.int (i / j)) else none
  | _, _ => none
def dMod : Dat → Dat → Option Dat
  | .int i, .int j => if 0 < j then some (.int (i % j)) else none
  | _, _ => none
def dPow : Dat → Dat → Option Dat
  | .int i, .int j => if powOk i j then some (.int (i ^ j.toNat)) else none
  | _, _ => none
def dNeg : Dat → Option Dat
  | .int i => some (.int (-i))
  | _ => none
def dAdd : Dat → Dat → Option Dat
  | .int i, .int j => some (.int (i + j))
  | .str a, .str b => if a.length + b.length ≤ 1000000 then some (.str (a ++ b)) else none
  | .lst a, .lst b => if a.length + b.length ≤ 1000000 then some (.lst (a ++ b)) else none
  | .tup a, .tup b => if a.length + b.length ≤ 1000000 then some (.tup (a ++ b)) else none
  | _, _ => none
def dLt : Dat → Dat → Option Dat
  | .int i, .int j => some (.bl (decide (i < j)))
  | _, _ => none
def dLe : Dat → Dat → Option Dat
  | .int i, .int j => some (.bl (decide (i ≤ j)))
  | _, _ => none
def dGt : Dat → Dat → Option Dat
  | .int i, .int j => some (.bl (decide (j < i)))
  | _, _ => none
def dGe : Dat → Dat → Option Dat
  | .int i, .int j => some (.bl (decide (j ≤ i)))
  | _, _ => none
def isNon : Dat → Bool
  | .non => true
  | _ => false
def dIsN : Dat → Dat → Option Dat
  | x, .non => some (.bl (isNon x))
  | _, _ => none
def dNotN : Dat → Dat → Option Dat
  | x, .non => some (.bl (!isNon x))
  | _, _ => none
theorem small_of {n : Nat} (h : n ≤ 1000000) : n ≤ sizeLine := by rw [sizeLine_eq]; omega
section
variable {K : PySem.W.Frag} {mg : Str → Option Value}
theorem o2_int {C : Int → Int → Prop} {h : Int → Int → V} {g : Dat → Dat → Option Dat} (hg : ∀ x y d, g x y = some d → ∃ i j, x = .int i ∧ y = .int j ∧ C i j ∧ flatD d = some (h i j)) : Op2 K mg (rI C h) g := fun S x y dx dy d Q ok rx ry e q => by
  obtain ⟨i, j, rfl, rfl, hc, hf⟩ := hg dx dy d e
  cases rx
  cases ry
  exact ⟨i, j, rfl, rfl, hc, q _ S (Ext.refl S) ok rfl (rep_flat hf)⟩
theorem o2_int0 {h : Int → Int → V} {g : Dat → Dat → Option Dat} (hg : ∀ x y d, g x y = some d → ∃ i j, x = .int i ∧ y = .int j ∧ flatD d = some (h i j)) : Op2 K mg (rI0 h) g := fun S x y dx dy d Q ok rx ry e q => by
  obtain ⟨i, j, rfl, rfl, hf⟩ := hg dx dy d e
  cases rx
  cases ry
  exact ⟨i, j, rfl, rfl, q _ S (Ext.refl S) ok rfl (rep_flat hf)⟩
theorem o2_sub : Op2 K mg (rI0 fun i j => .int (i - j)) dSub := o2_int0 fun x y d e => by
  unfold dSub at e
  split at e <;> cases e
  exact ⟨_, _, rfl, rfl, rfl⟩
theorem o2_lt : Op2 K mg (rI0 fun i j => .bl (decide (i < j))) dLt := o2_int0 fun x y d e => by
  unfold dLt at e
  split at e <;> cases e
  exact ⟨_, _, rfl, rfl, rfl⟩
theorem o2_le : Op2 K mg (rI0 fun i j => .bl (decide (i ≤ j))) dLe := o2_int0 fun x y d e => by
  unfold dLe at e
  split at e <;> cases e
  exact ⟨_, _, rfl, rfl, rfl⟩
theorem o2_gt : Op2 K mg (rI0 fun i j => .bl (decide (j < i))) dGt := o2_int0 fun x y d e => by
  unfold dGt at e
  split at e <;> cases e
  exact ⟨_, _, rfl, rfl, rfl⟩
theorem o2_ge : Op2 K mg (rI0 fun i j => .bl (decide (j ≤ i))) dGe := o2_int0 fun x y d e => by
  unfold dGe at e
  split at e <;> cases e
  exact ⟨_, _, rfl, rfl, rfl⟩
theorem o2_mul : Op2 K mg (rI CMul fun i j => .int (i * j)) dMulI := o2_int fun x y d e => by
  unfold dMulI at e
  split at e
  · split at e
    · rename_i i j h
      cases e
      refine ⟨i, j, rfl, rfl, ?_, rfl⟩
      have h := of_decide_eq_true h
      unfold big64 at h
      unfold CMul
      omega
    · cases e
  · cases e
theorem o2_fdiv : Op2 K mg (rI CDivW fun i j => .int (i / j)) dFdiv := o2_int fun x y d e => by
  unfold dFdiv at e
  split at e
  · split at e
    · rename_i i j h
      cases e
      have h := of_decide_eq_true h
      unfold big64 at h
      exact ⟨i, j, rfl, rfl, wide_div (b := 64) h.1 (by omega) (by decide) (by decide), rfl⟩
    · cases e
  · cases e
theorem o2_mod : Op2 K mg (rI (fun _ j => 0 < j) fun i j => .int (i % j)) dMod := o2_int fun x y d e => by
  unfold dMod at e
  split at e
  · split at e
    · rename_i i j h
      cases e
      exact ⟨i, j, rfl, rfl, h, rfl⟩
    · cases e
  · cases e
theorem o2_pow : Op2 K mg (rI CPow fun i j => .int (i ^ j.toNat)) dPow := o2_int fun x y d e => by
  unfold dPow at e
  split at e
  · split at e
    · rename_i i j h
      cases e
      have h := of_decide_eq_true h
      unfold big64 at h
      exact ⟨i, j, rfl, rfl, ⟨h.1, h.2.1, by omega⟩, rfl⟩
    · cases e
  · cases e
theorem o1_neg : Op1 K mg (rU fun i => .int (-i)) dNeg := fun S x dx d Q ok rx e q => by
  cases dx <;> cases e
  cases rx
  exact ⟨_, rfl, q _ S (Ext.refl S) ok rfl (.int _)⟩
theorem rep_non {S : Sx} {x : V} {dx : Dat} (r : RepS K mg S x dx) : decide (x = .non) = isNon dx := by
  cases r <;> rfl
theorem o2_isN : Op2 K mg (fun x y H Q => y = .non ∧ Q (.bl (decide (x = .non))) H) dIsN := fun S x y dx dy d Q ok rx ry e q => by
  cases dy <;> cases e
  cases ry
  refine ⟨rfl, ?_⟩
  rw [rep_non rx]
  exact q _ S (Ext.refl S) ok rfl (.bl _)
theorem o2_notN : Op2 K mg (fun x y H Q => y = .non ∧ Q (.bl (!decide (x = .non))) H) dNotN := fun S x y dx dy d Q ok rx ry e q => by
  cases dy <;> cases e
  cases ry
  refine ⟨rfl, ?_⟩
  rw [rep_non rx]
  exact q _ S (Ext.refl S) ok rfl (.bl _)
/-- +, whatever is added -/
def rAddD (K : PySem.W.Frag) : R2 := fun x y H Q => rI0 (fun i j => .int (i + j)) x y H Q ∨ (∃ i j, x = .str i ∧ y = .str j ∧ i.length + j.length ≤ sizeLine ∧ Q (.str (i ++ j)) H) ∨ rCat x y H Q ∨ rCatA K x y H Q
theorem op_addD {X : Cx} : OpR X (binaryOp .Add) (rAddD X.K) := by
  intro pins s σ H x y v u Q I rx ry q
  rcases q with q | q | q | q
  · exact op_add pins s σ H x y v u Q I rx ry q
  · exact op_add_str pins s σ H x y v u Q I rx ry q
  · exact op_cat pins s σ H x y v u Q I rx ry q
  · exact op_catA pins s σ H x y v u Q I rx ry q
theorem o2_add : Op2 K mg (rAddD K) dAdd := fun S x y dx dy d Q ok rx ry e q => by
  unfold dAdd at e
  split at e
  · cases e
    cases rx
    cases ry
    exact .inl ⟨_, _, rfl, rfl, q _ S (Ext.refl S) ok rfl (.int _)⟩
  · split at e
    · rename_i h
      cases e
      cases rx
      cases ry
      exact .inr (.inl ⟨_, _, rfl, rfl, small_of h, q _ S (Ext.refl S) ok rfl (.str _)⟩)
    · cases e
  · split at e
    · rename_i h
      cases e
      cases rx with
      | lst h1 r1 =>
        cases ry with
        | lst h2 r2 =>
          refine .inr (.inr (.inl ⟨_, _, _, _, rfl, rfl, ok.sub _ _ h1, ok.sub _ _ h2, ?_, fun p hp => ?_⟩))
          · rw [r1.length, r2.length]; exact small_of h
          · exact q (.ref p) (S.put p _) (Ext.put ok hp _) (ok.put hp _) rfl (newL ok (r1.append r2) hp)
    · cases e
  · split at e
    · rename_i h
      cases e
      cases rx with
      | tup h1 r1 =>
        cases ry with
        | tup h2 r2 =>
          rename_i a1 vs1 a2 vs2
          refine .inr (.inr (.inr ⟨_, _, _, _, rfl, rfl, sqT_H ok h1, sqT_H ok h2, ?_, fun z => ?_, fun z1 z2 => ?_, fun z1 z2 p hp => ?_⟩))
          · rw [r1.length, r2.length]; exact small_of h
          · subst z
            cases r1
            exact q _ S (Ext.refl S) ok rfl (.tup h2 r2)
          · subst z2
            cases r2
            rw [List.append_nil] at q
            exact q _ S (Ext.refl S) ok rfl (.tup h1 r1)
          · exact q (.ref p) (S.put p _) (Ext.put ok hp _) (ok.put hp _) rfl (newT ok (r1.append r2) hp)
    · cases e
  · cases e
/-- *, of ints, of a tuple and an int -/
def dMul : Dat → Dat → Option Dat
  | .int i, .int j => if mulOk i j then some (.int (i * j)) else none
  | .tup (d :: ds), .int j => if 0 ≤ j ∧ (ds.length + 1) * j.toNat ≤ 1000000 then some (.tup (List.replicate j.toNat (d :: ds)).flatten) else none
  | .lst ds, .int j => if 0 ≤ j ∧ j < 1000000 ∧ ds.length * j.toNat ≤ 1000000 then some (.lst (List.replicate j.toNat ds).flatten) else none
  | _, _ => none
end
end GI
set_option Elab.async false
set_option linter.all false
set_option maxRecDepth 100000
set_option maxHeartbeats 2000000
namespace GI
open PySem PySem.Spec PyProof.Rows L2
mutual
def toPy : Dat → Option PyData
  | .non => some .none
  | .bl b => some (.bool b)
  | .int i => some (.int i)
  | .str x => some (.str x)
  | .tup ds => (toPyL ds).map .tuple
  | .lst ds => (toPyL ds).map .list
  | .scr ds => (toPyL ds).map .list
  | .obj _ _ => none
  | .loc _ => none
  | .fn _ => none
def toPyL : List Dat → Option (List PyData)
  | [] => some []
  | d :: ds => (toPy d).bind fun a => (toPyL ds).bind fun as => some (a :: as)
end
def dEq (x y : Dat) : Option Dat := match toPy x, toPy y with
  | some a, some b => if decide (a.depth ≤ 64) && decide (b.depth ≤ 64) then some (.bl (PyData.eqv a b)) else none
  | _, _ => none
def dNe (x y : Dat) : Option Dat := match toPy x, toPy y with
  | some a, some b => if decide (a.depth ≤ 64) && decide (b.depth ≤ 64) then some (.bl (!PyData.eqv a b)) else none
  | _, _ => none
mutual
theorem toPy_plain : ∀ (d : Dat) (p : PyData), toPy d = some p → p.plain = true
  | .non, _, e => by cases e; rfl
  | .bl _, _, e => by cases e; rfl
  | .int _, _, e => by cases e; rfl
  | .str _, _, e => by cases e; rfl
  | .tup ds, p, e => by
    unfold toPy at e
    obtain ⟨ps, e1, e2⟩ := Option.map_eq_some_iff.mp e
    subst e2
    exact toPyL_plain ds ps e1
  | .lst ds, p, e => by
    unfold toPy at e
    obtain ⟨ps, e1, e2⟩ := Option.map_eq_some_iff.mp e
    subst e2
    exact toPyL_plain ds ps e1
  | .scr ds, p, e => by
    unfold toPy at e
    obtain ⟨ps, e1, e2⟩ := Option.map_eq_some_iff.mp e
    subst e2
    exact toPyL_plain ds ps e1
  | .obj _ _, _, e => by cases e
  | .loc _, _, e => by cases e
  | .fn _, _, e => by cases e
theorem toPyL_plain : ∀ (ds : List Dat) (ps : List PyData), toPyL ds = some ps → PyData.plainAll ps = true
  | [], _, e => by cases e; rfl
  | d :: ds, ps, e => by
    unfold toPyL at e
    obtain ⟨a, e1, e⟩ := Option.bind_eq_some_iff.mp e
    obtain ⟨as, e2, e⟩ := Option.bind_eq_some_iff.mp e
    cases e
    unfold PyData.plainAll
    rw [toPy_plain d a e1, toPyL_plain ds as e2]
    rfl
end
def rEqP (K : PySem.W.Frag) : R2 := fun x y H Q => ∃ d e, Dp K H x d ∧ Dp K H y e ∧ (d.plain = true ∧ d.depth ≤ 64) ∧ e.plain = true ∧ Q (.bl (PyData.eqv d e)) H
def rNeP (K : PySem.W.Frag) : R2 := fun x y H Q => ∃ d e, Dp K H x d ∧ Dp K H y e ∧ (d.plain = true ∧ d.depth ≤ 64) ∧ e.plain = true ∧ Q (.bl (!PyData.eqv d e)) H
theorem op_eqP {X : Cx} (hu : X.A.units + 64 < cLine) : OpR X (compareOp .Eq) (rEqP X.K) := by
  intro pins s σ H x y v u Q I rx ry h
  obtain ⟨d, e, hd, he, sd, se, q⟩ := h
  obtain ⟨as, r1⟩ := Dp.reads I d x v hd rx
  obtain ⟨bs, r2⟩ := Dp.reads I e y u he ry
  exact SeqAt.eq_plain r1 r2 sd.1 se (by have := sd.2; have : min d.depth e.depth ≤ d.depth := Nat.min_le_left _ _; omega) ⟨.bl _, H, I, rfl, q⟩
theorem op_neP {X : Cx} (hu : X.A.units + 64 < cLine) : OpR X (compareOp .NotEq) (rNeP X.K) := by
  intro pins s σ H x y v u Q I rx ry h
  obtain ⟨d, e, hd, he, sd, se, q⟩ := h
  obtain ⟨as, r1⟩ := Dp.reads I d x v hd rx
  obtain ⟨bs, r2⟩ := Dp.reads I e y u he ry
  exact SeqAt.ne_plain r1 r2 sd.1 se (by have := sd.2; have : min d.depth e.depth ≤ d.depth := Nat.min_le_left _ _; omega) ⟨.bl _, H, I, rfl, q⟩
section
variable {K : PySem.W.Frag} {mg : Str → Option Value}
mutual
theorem rep_dp {S : Sx} (ok : SOk K mg S) : ∀ {v : V} {d : Dat} {p : PyData}, RepS K mg S v d → toPy d = some p → Dp K S.H v p
  | _, _, _, .non, e => by cases e; exact .non
  | _, _, _, .bl b, e => by cases e; exact .bl b
  | _, _, _, .int b, e => by cases e; exact .int b
  | _, _, _, .str b, e => by cases e; exact .str b
  | _, .tup ds, p, .tup h r, e => by
    have e : (toPyL ds).map PyData.tuple = some p := e
    cases e1 : toPyL ds with
    | none => rw [e1] at e; cases e
    | some as =>
      rw [e1] at e
      cases e
      exact .tup (sqT_H ok h) (rep_dpL ok r e1)
  | _, .lst ds, p, .lst h r, e => by
    have e : (toPyL ds).map PyData.list = some p := e
    cases e1 : toPyL ds with
    | none => rw [e1] at e; cases e
    | some as =>
      rw [e1] at e
      cases e
      exact .lst (sqL_H ok (sq_of h)) (rep_dpL ok r e1)
  | _, .scr ds, p, .scr h r, e => by
    have e : (toPyL ds).map PyData.list = some p := e
    cases e1 : toPyL ds with
    | none => rw [e1] at e; cases e
    | some as =>
      rw [e1] at e
      cases e
      exact .lst (sqL_H ok h) (rep_dpL ok r e1)
  | _, _, _, .obj _ _ _ _, e => by cases e
  | _, _, _, .loc _, e => by cases e
  | _, _, _, .fn _, e => by cases e
theorem rep_dpL {S : Sx} (ok : SOk K mg S) : ∀ {vs : List V} {ds : List Dat} {ps : List PyData}, RepSL K mg S vs ds → toPyL ds = some ps → DpAll K S.H vs ps
  | _, _, _, .nil, e => by cases e; exact .nil
  | _, d :: ds, ps, .cons h r, e => by
    have e : (toPy d).bind (fun a => (toPyL ds).bind fun as => some (a :: as)) = some ps := e
    cases e1 : toPy d with
    | none => rw [e1] at e; cases e
    | some a =>
      rw [e1] at e
      cases e2 : toPyL ds with
      | none => rw [e2] at e; cases e
      | some as =>
        rw [e2] at e
        cases e
        exact .cons (rep_dp ok h e1) (rep_dpL ok r e2)
end
theorem o2_eq : Op2 K mg (rEqP K) dEq := fun S x y dx dy d Q ok rx ry e q => by
  unfold dEq at e
  split at e
  · rename_i a b e1 e2
    split at e
    · rename_i h
      cases e
      obtain ⟨h1, h2⟩ := Bool.and_eq_true_iff.mp h
      exact ⟨a, b, rep_dp ok rx e1, rep_dp ok ry e2, ⟨toPy_plain _ _ e1, of_decide_eq_true h1⟩, toPy_plain _ _ e2, q _ S (Ext.refl S) ok rfl (.bl _)⟩
    · cases e
  · cases e
theorem o2_ne : Op2 K mg (rNeP K) dNe := fun S x y dx dy d Q ok rx ry e q => by
  unfold dNe at e
  split at e
  · rename_i a b e1 e2
    split at e
    · rename_i h
      cases e
      obtain ⟨h1, h2⟩ := Bool.and_eq_true_iff.mp h
      exact ⟨a, b, rep_dp ok rx e1, rep_dp ok ry e2, ⟨toPy_plain _ _ e1, of_decide_eq_true h1⟩, toPy_plain _ _ e2, q _ S (Ext.refl S) ok rfl (.bl _)⟩
    · cases e
  · cases e
def dIx : Dat → Dat → Option Dat
  | .lst ds, .int i => atI ds i
  | .tup ds, .int i => atI ds i
  | .scr ds, .int i => atI ds i
  | _, _ => none
theorem rep_at {S : Sx} {vs : List V} {ds : List Dat} {i : Int} {d : Dat} (r : RepSL K mg S vs ds) (h : atI ds i = some d) : ∃ v, atI vs i = some v ∧ RepS K mg S v d := by
  unfold atI at h ⊢
  rw [r.length]
  cases e : ixN ds.length i with
  | none => rw [e] at h; cases h
  | some j =>
    rw [e] at h
    exact r.get h
theorem o2_ix : Op2 K mg (rIx K) dIx := fun S x y dx dy d Q ok rx ry e q => by
  unfold dIx at e
  split at e
  · cases ry
    cases rx with
    | lst h r =>
      obtain ⟨v, e1, rv⟩ := rep_at r e
      exact .inl ⟨_, _, _, v, rfl, rfl, sqL_H ok (sq_of h), e1, q _ S (Ext.refl S) ok rfl rv⟩
  · cases ry
    cases rx with
    | tup h r =>
      obtain ⟨v, e1, rv⟩ := rep_at r e
      exact .inr (.inl ⟨_, _, _, v, rfl, rfl, sqT_H ok h, e1, q _ S (Ext.refl S) ok rfl rv⟩)
  · cases ry
    cases rx with
    | scr h r =>
      obtain ⟨v, e1, rv⟩ := rep_at r e
      exact .inl ⟨_, _, _, v, rfl, rfl, sqL_H ok h, e1, q _ S (Ext.refl S) ok rfl rv⟩
  · cases e
def cutD (ds : List Dat) (lo hi : Option Int) : List Dat := (ds.drop (HT.sIx ds.length 0 lo)).take (HT.sIx ds.length ds.length hi - HT.sIx ds.length 0 lo)
def dSl (lo hi : Option Int) : Dat → Option Dat
  | .lst ds => some (.lst (cutD ds lo hi))
  | .scr ds => some (.lst (cutD ds lo hi))
  | .tup ds => some (.tup (cutD ds lo hi))
  | _ => none
theorem rep_cut {S : Sx} {vs : List V} {ds : List Dat} {lo hi : Option Int} (r : RepSL K mg S vs ds) : RepSL K mg S (cutV vs lo hi) (cutD ds lo hi) := by
  unfold cutV cutD
  rw [r.length]
  exact (r.drop _).take _
theorem cut_whole {vs : List V} {lo hi : Option Int} (h : HT.sIx vs.length 0 lo = 0 ∧ HT.sIx vs.length vs.length hi = vs.length) : cutV vs lo hi = vs := by
  unfold cutV
  rw [h.1, h.2]
  simp
def rSlD (K : PySem.W.Frag) : V → Option Int → Option Int → Hp → VK → Prop := fun x lo hi H Q => rSlL K x lo hi H Q ∨ rSlA K x lo hi H Q
theorem o1_sl {lo hi : Option Int} : Op1 K mg (fun x H Q => rSlD K x lo hi H Q) (dSl lo hi) := fun S x dx d Q ok rx e q => by
  unfold dSl at e
  split at e
  · cases e
    cases rx with
    | lst h r => exact .inl ⟨_, _, rfl, sqL_H ok (sq_of h), fun p hp => q (.ref p) (S.put p _) (Ext.put ok hp _) (ok.put hp _) rfl (newL ok (rep_cut r) hp)⟩
  · cases e
    cases rx with
    | scr h r => exact .inl ⟨_, _, rfl, sqL_H ok h, fun p hp => q (.ref p) (S.put p _) (Ext.put ok hp _) (ok.put hp _) rfl (newL ok (rep_cut r) hp)⟩
  · cases e
    cases rx with
    | tup h r =>
      refine .inr ⟨_, _, rfl, sqT_H ok h, fun z => ?_, fun z p hp => q (.ref p) (S.put p _) (Ext.put ok hp _) (ok.put hp _) rfl (newT ok (rep_cut r) hp)⟩
      have rc := rep_cut (lo := lo) (hi := hi) r
      rw [cut_whole z] at rc
      exact q _ S (Ext.refl S) ok rfl (.tup h rc)
  · cases e
end
/-- an optional bound of a slice -/
def sPart (f : Option Ev) : Env → Sto → Out (Option Int) := fun env st => match f with
  | none => .ok none st
  | some f => (f env st).bind fun d st1 => match d with
    | .int i => .ok (some i) st1
    | _ => .bad
def sSl (fa : Ev) (fl fh : Option Ev) : Ev := fun env st => (fa env st).bind fun x st1 => (sPart fl env st1).bind fun lo st2 => (sPart fh env st2).bind fun hi st3 => Out.of (dSl lo hi x) st3
def tP (K : PySem.W.Frag) (mg : Str → Option Value) (S0 : Sx) (W : WX) (f : Option Ev) : TO := fun σ H Q => ∃ S env, S.H = H ∧ SOk K mg S ∧ EnvRep K mg S0 S σ env ∧
  outE K mg W σ S (sPart f env S.st) fun o st => ∀ S', Ext S S' → SOk K mg S' → S'.st = st → Q o S'.H
def Dp1 (X : Cx) (W : WX) (e : Option Expr) (f : Option Ev) : Prop := ∀ S0, PO X e (tP X.K X.mg S0 W f)
section
variable {X : Cx} {W : WX} {a b e : Expr} {fa fb f : Ev} {pos p2 : Pos} {fl fh : Option Ev} {lo hi : Option Expr}
theorem dp_none : Dp1 X W none none := fun S0 => ⟨fun pins s σ H Q I h => by
  obtain ⟨S, env, rfl, ok, er, q⟩ := h
  exact po_none.run pins s σ S.H Q I (q S (Ext.refl S) ok rfl)⟩
theorem dp_some (h : De X W e f) : Dp1 X W (some e) (some f) := fun S0 => ⟨fun pins s σ H Q I q => by
  refine (po_some (h S0)).run pins s σ H Q I ?_
  obtain ⟨S, env, rfl, ok, er, q⟩ := q
  refine ⟨S, env, rfl, ok, er, outE.imp q fun d st q1 v S' xx ok' es r => ?_⟩
  cases d with
  | int i =>
    cases r
    exact ⟨i, rfl, q1 S' xx ok' es⟩
  | _ => exact (show False from q1).elim⟩
theorem d_slice (ha : De X W a fa) (hl : Dp1 X W lo fl) (hh : Dp1 X W hi fh) : De X W (.Subscript a (.Slice lo hi none p2) pos) (sSl fa fl fh) := fun S0 => by
  refine peW (pe_slice (sl_list.or sl_tupA) (ha S0) (hl S0) (hh S0)) fun σ H Q q => ?_
  obtain ⟨S, env, rfl, ok, er, q⟩ := q
  refine ⟨S, env, rfl, ok, er, q.imp fun dx st1 q1 x S1 x1 ok1 e1 r1 => ?_⟩
  subst e1
  refine ⟨S1, env, rfl, ok1, er.ext x1, outE.imp (q1.later ok1 x1 fun d st z v S' xx ok' => z v S' (Ext.trans ok1 x1 xx) ok') fun l st2 q2 S2 x2 ok2 e2 => ?_⟩
  subst e2
  refine ⟨S2, env, rfl, ok2, (er.ext x1).ext x2, outE.imp (q2.later ok2 x2 fun d st z v S' xx ok' => z v S' (Ext.trans ok2 x2 xx) ok') fun u st3 q3 S3 x3 ok3 e3 => ?_⟩
  subst e3
  cases e : dSl l u dx with
  | none => rw [e] at q3; exact q3.elim
  | some d =>
    rw [e] at q3
    exact o1_sl S3 x dx d Q ok3 ((r1.ext x2).ext x3) e fun v S' xx ok' es => q3 v S' (Ext.trans ok3 x3 xx) ok' es
theorem d_ix (ha : De X W a fa) (hb : De X W b fb) (hs : PlainIx b) : De X W (.Subscript a b pos) (s2 dIx fa fb) := fun S0 => by
  refine peW (pe_ix ix_seq (ha S0) (hb S0) hs) fun σ H Q h => ?_
  refine tE2 h fun S x y dx dy env ok er rx ry q => ?_
  cases e : dIx dx dy with
  | none => rw [e] at q; exact q.elim
  | some d =>
    rw [e] at q
    exact o2_ix S x y dx dy d Q ok rx ry e q
end
def dLen : List Dat → Option Dat
  | [.lst ds] => some (.int ds.length)
  | [.tup ds] => some (.int ds.length)
  | [.scr ds] => some (.int ds.length)
  | [.str x] => if x.length ≤ 1000000 then some (.int x.length) else none
  | _ => none
def dTuple : List Dat → Option Dat
  | [.lst ds] => some (.tup ds)
  | [.tup ds] => some (.tup ds)
  | _ => none
def dList : List Dat → Option Dat
  | [.lst ds] => some (.lst ds)
  | [.tup ds] => some (.lst ds)
  | _ => none
def intsOf : List Dat → Option (List Int)
  | [] => some []
  | .int i :: r => (intsOf r).map (i :: ·)
  | _ => none
def boolsOf : List Dat → Option (List Bool)
  | [] => some []
  | .bl i :: r => (boolsOf r).map (i :: ·)
  | _ => none
def dSortI : List Dat → Option Dat
  | [.lst ds] => (intsOf ds).map fun ns => .lst ((ns.mergeSort (fun a b => decide (a ≤ b))).map Dat.int)
  | _ => none
def dSum : List Dat → Option Dat
  | [.lst ds] => (intsOf ds).map fun ns => .int ns.sum
  | _ => none
def dAll : List Dat → Option Dat
  | [.lst ds] => (boolsOf ds).map fun bs => .bl (bs.all id)
  | _ => none
def dAny : List Dat → Option Dat
  | [.lst ds] => (boolsOf ds).map fun bs => .bl (bs.any id)
  | _ => none
def dMin2 : List Dat → Option Dat
  | [.int i, .int j] => some (.int (if j < i then j else i))
  | _ => none
def dMax2 : List Dat → Option Dat
  | [.int i, .int j] => some (.int (if j > i then j else i))
  | _ => none
def dInt : List Dat → Option Dat
  | [.int i] => some (.int i)
  | _ => none
def dAbs : List Dat → Option Dat
  | [.int i] => some (.int (if i < 0 then -i else i))
  | _ => none
theorem intsOf_eq : ∀ {ds : List Dat} {ns : List Int}, intsOf ds = some ns → ds = ns.map Dat.int
  | [], ns, h => by cases h; rfl
  | d :: r, ns, h => by
    cases d with
    | int i =>
      have h : (intsOf r).map (i :: ·) = some ns := h
      cases e : intsOf r with
      | none => rw [e] at h; cases h
      | some ms =>
        rw [e] at h
        cases h
        rw [intsOf_eq e]
        rfl
    | _ => cases h
theorem intsOf_map : ∀ (ns : List Int), intsOf (ns.map Dat.int) = some ns
  | [] => rfl
  | n :: ns => by
    show (intsOf (ns.map Dat.int)).map (n :: ·) = _
    rw [intsOf_map ns]
    rfl
theorem boolsOf_eq : ∀ {ds : List Dat} {ns : List Bool}, boolsOf ds = some ns → ds = ns.map Dat.bl
  | [], ns, h => by cases h; rfl
  | d :: r, ns, h => by
    cases d with
    | bl i =>
      have h : (boolsOf r).map (i :: ·) = some ns := h
      cases e : boolsOf r with
      | none => rw [e] at h; cases h
      | some ms =>
        rw [e] at h
        cases h
        rw [boolsOf_eq e]
        rfl
    | _ => cases h
theorem boolsOf_map : ∀ (ns : List Bool), boolsOf (ns.map Dat.bl) = some ns
  | [] => rfl
  | n :: ns => by
    show (boolsOf (ns.map Dat.bl)).map (n :: ·) = _
    rw [boolsOf_map ns]
    rfl
section
variable {K : PySem.W.Frag} {mg : Str → Option Value}
theorem RepL.bools : ∀ {G : Hp} {r : List Addr} {vs : List V} {ns : List Bool}, RepL K mg G r vs (ns.map Dat.bl) → vs = ns.map V.bl
  | _, _, _, [], h => by cases h; rfl
  | _, _, _, n :: ns, h => by
    cases h with
    | cons h q =>
      cases h
      rw [q.bools]
      rfl
theorem one_rep {S : Sx} {vs : List V} {d : Dat} (r : RepSL K mg S vs [d]) : ∃ v, vs = [v] ∧ RepS K mg S v d := by
  cases r with
  | cons h q =>
    cases q
    exact ⟨_, rfl, h⟩
theorem two_rep {S : Sx} {vs : List V} {d d' : Dat} (r : RepSL K mg S vs [d, d']) : ∃ v v', vs = [v, v'] ∧ RepS K mg S v d ∧ RepS K mg S v' d' := by
  cases r with
  | cons h q =>
    obtain ⟨v', rfl, h'⟩ := one_rep q
    exact ⟨_, _, rfl, h, h'⟩
theorem b_len : ClR K mg (fun xs H Q => ∃ x n, xs = [x] ∧ LenV K x H n ∧ Q (.int n) H) dLen := fun S vs ds d Q ok r e q => by
  unfold dLen at e
  split at e
  · cases e
    obtain ⟨v, rfl, rv⟩ := one_rep r
    cases rv with
    | lst h r => exact ⟨_, _, rfl, .inl ⟨_, sqL_H ok (sq_of h), r.length.symm⟩, q _ S (Ext.refl S) ok rfl (.int _)⟩
  · cases e
    obtain ⟨v, rfl, rv⟩ := one_rep r
    cases rv with
    | tup h r => exact ⟨_, _, rfl, .inr ⟨_, sqT_H ok h, r.length.symm⟩, q _ S (Ext.refl S) ok rfl (.int _)⟩
  · cases e
    obtain ⟨v, rfl, rv⟩ := one_rep r
    cases rv with
    | scr h r => exact ⟨_, _, rfl, .inl ⟨_, sqL_H ok h, r.length.symm⟩, q _ S (Ext.refl S) ok rfl (.int _)⟩
  · split at e
    · rename_i hx
      cases e
      obtain ⟨v, rfl, rv⟩ := one_rep r
      cases rv
      exact ⟨_, _, rfl, ⟨small_of hx, rfl⟩, q _ S (Ext.refl S) ok rfl (.int _)⟩
    · cases e
  · cases e
theorem b_tuple : ClR K mg (fun xs H Q => ∃ p ys, xs = [.ref p] ∧ ((SqL K H p ys ∧ ∀ l, H l = none → Q (.ref l) (upd H l (.tup ys))) ∨ (SqT K H p ys ∧ Q (.ref p) H))) dTuple := fun S vs ds d Q ok r e q => by
  unfold dTuple at e
  split at e
  · cases e
    obtain ⟨v, rfl, rv⟩ := one_rep r
    cases rv with
    | lst h r => exact ⟨_, _, rfl, .inl ⟨sqL_H ok (sq_of h), fun p hp => q (.ref p) (S.put p _) (Ext.put ok hp _) (ok.put hp _) rfl (newT ok r hp)⟩⟩
  · cases e
    obtain ⟨v, rfl, rv⟩ := one_rep r
    cases rv with
    | tup h r => exact ⟨_, _, rfl, .inr ⟨sqT_H ok h, q _ S (Ext.refl S) ok rfl (.tup h r)⟩⟩
  · cases e
theorem b_list : ClR K mg (fun xs H Q => ∃ p ys, xs = [.ref p] ∧ (SqL K H p ys ∨ SqT K H p ys) ∧ ∀ l, H l = none → Q (.ref l) (upd H l (.lst ys))) dList := fun S vs ds d Q ok r e q => by
  unfold dList at e
  split at e
  · cases e
    obtain ⟨v, rfl, rv⟩ := one_rep r
    cases rv with
    | lst h r => exact ⟨_, _, rfl, .inl (sqL_H ok (sq_of h)), fun p hp => q (.ref p) (S.put p _) (Ext.put ok hp _) (ok.put hp _) rfl (newL ok r hp)⟩
  · cases e
    obtain ⟨v, rfl, rv⟩ := one_rep r
    cases rv with
    | tup h r => exact ⟨_, _, rfl, .inr (sqT_H ok h), fun p hp => q (.ref p) (S.put p _) (Ext.put ok hp _) (ok.put hp _) rfl (newL ok r hp)⟩
  · cases e
theorem sorted_one {ns ms : List Int} (h : ms.Perm ns) (s : ms.Pairwise (· ≤ ·)) : ms = ns.mergeSort (fun a b => decide (a ≤ b)) := by
  have p1 : ms.Perm (ns.mergeSort (fun a b => decide (a ≤ b))) := h.trans (List.mergeSort_perm ns _).symm
  refine List.Perm.eq_of_pairwise (le := fun a b => a ≤ b) (fun a b _ _ h1 h2 => Int.le_antisymm h1 h2) s ?_ p1
  have := List.pairwise_mergeSort (le := fun a b => decide (a ≤ b)) (fun a b c h1 h2 => by simp at *; omega) (fun a b => by simp; omega) ns
  exact this.imp fun h => of_decide_eq_true h
theorem b_sortI : ClR K mg (rSortedI K) dSortI := fun S vs ds d Q ok r e q => by
  unfold dSortI at e
  split at e
  · rename_i es
    cases e1 : intsOf es with
    | none => rw [e1] at e; cases e
    | some ns =>
      rw [e1] at e
      cases e
      obtain ⟨v, rfl, rv⟩ := one_rep r
      have e2 := intsOf_eq e1
      subst e2
      cases rv with
      | lst h r =>
        have e3 := r.ints
        subst e3
        refine ⟨_, ns, rfl, sqL_H ok (sq_of h), fun ms p hp hs hn => ?_⟩
        have e4 := sorted_one hp hs
        subst e4
        exact q (.ref p) (S.put p _) (Ext.put ok hn _) (ok.put hn _) rfl (newL ok (RepL.of_ints _) hn)
  · cases e
theorem b_sum : ClR K mg (rSum K) dSum := fun S vs ds d Q ok r e q => by
  unfold dSum at e
  split at e
  · rename_i es
    cases e1 : intsOf es with
    | none => rw [e1] at e; cases e
    | some ns =>
      rw [e1] at e
      cases e
      obtain ⟨v, rfl, rv⟩ := one_rep r
      have e2 := intsOf_eq e1
      subst e2
      cases rv with
      | lst h r =>
        have e3 := r.ints
        subst e3
        exact ⟨_, ns, rfl, sqL_H ok (sq_of h), q _ S (Ext.refl S) ok rfl (.int _)⟩
  · cases e
theorem b_all : ClR K mg (rAll K) dAll := fun S vs ds d Q ok r e q => by
  unfold dAll at e
  split at e
  · rename_i es
    cases e1 : boolsOf es with
    | none => rw [e1] at e; cases e
    | some ns =>
      rw [e1] at e
      cases e
      obtain ⟨v, rfl, rv⟩ := one_rep r
      have e2 := boolsOf_eq e1
      subst e2
      cases rv with
      | lst h r =>
        have e3 := r.bools
        subst e3
        exact ⟨_, ns, rfl, sqL_H ok (sq_of h), q _ S (Ext.refl S) ok rfl (.bl _)⟩
  · cases e
theorem b_any : ClR K mg (rAny K) dAny := fun S vs ds d Q ok r e q => by
  unfold dAny at e
  split at e
  · rename_i es
    cases e1 : boolsOf es with
    | none => rw [e1] at e; cases e
    | some ns =>
      rw [e1] at e
      cases e
      obtain ⟨v, rfl, rv⟩ := one_rep r
      have e2 := boolsOf_eq e1
      subst e2
      cases rv with
      | lst h r =>
        have e3 := r.bools
        subst e3
        exact ⟨_, ns, rfl, sqL_H ok (sq_of h), q _ S (Ext.refl S) ok rfl (.bl _)⟩
  · cases e
theorem b_min2 : ClR K mg (fun xs H Q => ∃ i j, xs = [.int i, .int j] ∧ Q (.int (if j < i then j else i)) H) dMin2 := fun S vs ds d Q ok r e q => by
  unfold dMin2 at e
  split at e <;> cases e
  obtain ⟨v, v', rfl, r1, r2⟩ := two_rep r
  cases r1
  cases r2
  exact ⟨_, _, rfl, q _ S (Ext.refl S) ok rfl (.int _)⟩
theorem b_max2 : ClR K mg (fun xs H Q => ∃ i j, xs = [.int i, .int j] ∧ Q (.int (if j > i then j else i)) H) dMax2 := fun S vs ds d Q ok r e q => by
  unfold dMax2 at e
  split at e <;> cases e
  obtain ⟨v, v', rfl, r1, r2⟩ := two_rep r
  cases r1
  cases r2
  exact ⟨_, _, rfl, q _ S (Ext.refl S) ok rfl (.int _)⟩
theorem b_int : ClR K mg (fun xs H Q => (∃ i, xs = [.int i] ∧ Q (.int i) H) ∨ ∃ k, xs = [.bl k] ∧ Q (.int (if k then 1 else 0)) H) dInt := fun S vs ds d Q ok r e q => by
  unfold dInt at e
  split at e <;> cases e
  obtain ⟨v, rfl, r1⟩ := one_rep r
  cases r1
  exact .inl ⟨_, rfl, q _ S (Ext.refl S) ok rfl (.int _)⟩
theorem b_abs : ClR K mg (fun xs H Q => ∃ i, xs = [.int i] ∧ Q (.int (if i < 0 then -i else i)) H) dAbs := fun S vs ds d Q ok r e q => by
  unfold dAbs at e
  split at e <;> cases e
  obtain ⟨v, rfl, r1⟩ := one_rep r
  cases r1
  exact ⟨_, rfl, q _ S (Ext.refl S) ok rfl (.int _)⟩
end
end GI
set_option Elab.async false
set_option linter.all false
set_option maxRecDepth 100000
set_option maxHeartbeats 2000000
namespace GI
open PySem PySem.Spec PyProof.Rows L2
/-- a def's promise where no repr is under way -/
structure FnG (P : Program) (w : World) (K : PySem.W.Frag) (mg : Str → Option Value) (base : Heap) (CX : CXT) (k : Nat) (f : Addr) (fd : FuncData) (ps : List Str) (sp : Sp) : Prop where
  len : ∀ vs H Q E, sp vs H Q E → vs.length = ps.length
  run : ∀ (A : Around) (outer : List PySem.Env) (s : Shared) (H : Hp) (args : Args) (us : List Value) (vs : List V) (Q : VK) (E : XK), A.guards = some [] → Room k A → Env0 P w K mg base A outer s H → BindsTo s fd args (ps.zip us) → Vals vs us → sp vs H Q E →
    codeAny (model P w) A (.call (.ref f) args) (CR CX outer P w H s Q E) s
section
variable {P : Program} {w : World} {K : PySem.W.Frag} {mg : Str → Option Value} {base : Heap} {CX : CXT} {k j : Nat} {f : Addr} {fd : FuncData} {ps : List Str} {sp : Sp}
theorem FnG.of (F : FnOk P w K mg base CX k f fd ps sp) : FnG P w K mg base CX k f fd ps sp := ⟨F.len, fun A outer s H args us vs Q E _ hr => F.run A outer s H args us vs Q E hr⟩
theorem FnG.mono (F : FnG P w K mg base CX j f fd ps sp) (h : j ≤ k) : FnG P w K mg base CX k f fd ps sp := ⟨F.len, fun A outer s H args us vs Q E hg hr => F.run A outer s H args us vs Q E hg (hr.mono h)⟩
/-- by its body -/
theorem fnG_of {name qual : Str} {params : Arguments} {body : List Stmt} {scope : Scope} {dV kV doc pm cdv ct oc : Value} {an od : Option Addr} {osl : Array (Option Value)} {N : List Str}
    (lk : K.lookup f = some ⟨oc, od, .func (PySem.W.fnOf name qual params body scope dV kV doc pm an cdv ct), osl⟩) (hcd : PySem.W.codeIn K cdv qual = true) (Sc : FnScope N ps scope) (len : ∀ vs H Q E, sp vs H Q E → vs.length = ps.length)
    (hbody : ∀ (A : Around) (outer : List PySem.Env) (s : Shared) (H : Hp) (vs : List V) (Q : VK) (E : XK), A.guards = some [] → Room k (A.deeper (envOfC qual scope s.heap.objs.size f cdv)) → sp vs H Q E →
      ∃ t, PSs (cxOf CX P w K mg base N qual scope f cdv A outer s H E) body t ∧ t { nx := fun _ H' => Q .non H', rt := Q } (L2.start N vs) H) :
    FnG P w K mg base CX (k + 1) f (PySem.W.fnOf name qual params body scope dV kV doc pm an cdv ct) ps sp := by
  refine ⟨len, fun A outer s H args us vs Q E hG hr e0 hb r hsp => ?_⟩
  -- the promise at this very call, as one that holds everywhere
  let sp' : Sp := fun vs' H' Q' E' => sp vs' H' Q' E'
  have hl := len _ _ _ _ hsp
  have KX : K.In s.heap := e0.mod.kin.keeps fun b o e => (e0.bs b o e).1
  have lim : s.heap.NoLimit := e0.mod.nolimit.keeps fun b o e => (e0.bs b o e).1
  have hkind : ∀ y ∈ ps.zip us, scope.names.lookup y.1 = some .local ∨ (scope.names.lookup y.1 = some .cell ∧ ((cellsFrom (s.heap.objs.size + 1) scope.names []).lookup y.1).isSome = true) := by
    rintro ⟨n, v⟩ hy
    rcases Sc.par n (List.of_mem_zip hy).1 with q | q
    · exact .inl q
    · exact .inr ⟨q, PySem.W.cellsFrom_some _ _ _ (.inl q)⟩
  refine codeAny_call_function hr.depth (KX _ _ lk) rfl Sc.co Sc.gen rfl (PySem.W.codeRec_of KX hcd) (hb _ _ _ _ (wpAny_newFunctionEnv_cells Sc.kind hkind fun env he s1 x => ?_))
  subst he
  refine ⟨lim.keeps x.toInCall.keep, codeAny_func ?_⟩
  obtain ⟨t, ht, hq⟩ := hbody A outer s H vs Q E hG (hr.deeper _) hsp
  refine wpAny_mono (ht.run [] s1 (L2.start N vs) H _ (inv_start Sc hr.hd e0 hl r x) hq) (fun fl s' hs => ?_) fun e s' hs => hs
  cases fl with
  | ret u =>
    obtain ⟨v, σ', H', J, rv, q⟩ := hs
    exact ⟨v, H', J.os, J.bare, J.base, J.hok, rv, q⟩
  | next =>
    obtain ⟨σ', H', J, q⟩ := hs
    exact ⟨V.non, H', J.os, J.bare, J.base, J.hok, rfl, q⟩
  | brk =>
    obtain ⟨_, _, _, q⟩ := hs
    exact False.elim q
  | cont =>
    obtain ⟨_, _, _, q⟩ := hs
    exact False.elim q
end
section
variable {X : Cx} {W : WX} {e : Expr} {es : List Expr} {fl : EvL} {pos p : Pos} {F : Fn} {n k : Nat} {f : Addr} {fd : FuncData} {ps : List Str} {x : Str} {K : PySem.W.Frag} {mg : Str → Option Value}
theorem run_G {CX : CXT} {sp : Sp} {E : L2.St → XK} {pins : List (Addr × Obj)} {σ : L2.St} {H : Hp} {s : Shared} {Q : VK} {us : List Value} {vs : List V} (G : FnG X.prog X.w X.K X.mg X.base CX k f fd ps sp) (hG : X.A.guards = some []) (hr : Room k X.A) (hb : Binds X.K fd ps []) (hx : PassesAt CX X σ (E σ))
    (I : Inv X pins σ H s) (r : Vals vs us) (h : sp vs H Q (E σ)) : wpAny (model X.prog X.w) X.A (call (.ref f) us) (EP X pins σ Q) X.xe s := by
  have hl : us.length = ps.length := by rw [← r.length]; exact G.len _ _ _ _ h
  have b := hb s us I.kIn (by rw [List.append_nil]; exact hl)
  rw [List.append_nil] at b
  refine wpAny_call (codeAny_mono (G.run X.A X.stack s H ⟨us, []⟩ us vs Q (E σ) hG hr I.env0 b r h) fun r s' hq => ?_)
  cases r with
  | error e => exact hx pins H s e s' I hq
  | ok fl =>
    cases fl with
    | ret u => exact I.after hq
    | next => exact False.elim hq
    | brk => exact False.elim hq
    | cont => exact False.elim hq
def tCallG (sp : Sp) (E : L2.St → XK) (t : TA) : TE := fun σ H Q => t σ H fun vs H1 => sp vs H1 Q (E σ)
theorem pe_callG {CX : CXT} {sp : Sp} {E : L2.St → XK} {t : TA} (G : FnG X.prog X.w X.K X.mg X.base CX k f fd ps sp) (hG : X.A.guards = some []) (hr : Room k X.A) (hg : Gl X x) (hm : X.mg x = some (.ref f)) (hk : PySem.W.keepIn X.K (.ref f) = true) (hb : Binds X.K fd ps []) (hx : ∀ σ, PassesAt CX X σ (E σ))
    (ha : PA X (e :: es) t) (hdb : (x == ("__debug__" : Str)) = false := by decide) (he : starEach (e :: es) X.env = (false, eval e X.env) :: starEach es X.env := by rfl) (hpl : (backTo pos (starEach es X.env)).any (·.1) = false := by rfl) :
    PE X (.Call (.Name x p) (e :: es) [] pos) (tCallG sp E t) := ⟨fun pins s σ H Q I h =>
  wpAny_Call_Name_kw (ld_glob I hg hm (PySem.W.callWith_K (h₀ := X.base) I.ok.mod.kin hk (thn (ha.run pos pins s σ H _ I h) fun us s1 ⟨vs, H1, I1, r, q⟩ => ⟨I1.kIn, run_G G hG hr hb (hx σ) I1 r q⟩) he hpl) hdb)⟩
theorem d_callG (G : FnG X.prog X.w X.K X.mg X.base (L2.CX X.prog X.w) k f fd ps (spF X.K X.mg n F)) (hG : X.A.guards = some []) (hr : Room k X.A) (hg : Gl X x) (hm : X.mg x = some (.ref f)) (hk : PySem.W.keepIn X.K (.ref f) = true) (hb : Binds X.K fd ps []) (tk : Takes X W)
    (ha : Des X W (e :: es) fl) (hdb : (x == ("__debug__" : Str)) = false := by decide) (he : starEach (e :: es) X.env = (false, eval e X.env) :: starEach es X.env := by rfl) (hpl : (backTo pos (starEach es X.env)).any (·.1) = false := by rfl) :
    De X W (.Call (.Name x p) (e :: es) [] pos) (sCall n F fl) := fun S0 => by
  refine peW (pe_callG (E := fun σ c d H => W c d σ H) G hG hr hg hm hk hb (fun σ => passAt tk σ) (ha S0) hdb he hpl) fun σ H Q q => ?_
  obtain ⟨S, env, rfl, ok, er, q⟩ := q
  refine ⟨S, env, rfl, ok, er, q.imp fun ds st q vs S1 x1 ok1 e1 r1 => ?_⟩
  subst e1
  by_cases hl : ds.length = n
  · rw [if_pos hl] at q
    refine ⟨by rw [r1.length]; exact hl, S1, ds, rfl, ok1, r1, ?_⟩
    cases ef : F ds S1.st with
    | ok d st2 => rw [ef] at q; exact fun v S' xx ok' es' r => q v S' (Ext.trans ok1 x1 xx) ok' es' r
    | ex c fs st2 => rw [ef] at q; exact fun S' cls dx xx ok' es' r => q S' cls dx (Ext.trans ok1 x1 xx) ok' es' r
    | bad => rw [ef] at q; exact q
  · rw [if_neg hl] at q
    exact q.elim
theorem fnG_ok {P : Program} {w : World} {base : Heap} {qual : Str} {st : Stmt} {N : List Str} {body : Exe} (Fu : Fun K x qual st f fd) (Sc : FnScope N ps (defScope st))
    (hb : ∀ (cdv : Value) (A : Around) (outer : List PySem.Env) (s : Shared) (H : Hp) (E : XK), A.guards = some [] → Room k (A.deeper (envOfC qual (defScope st) s.heap.objs.size f cdv)) →
      Takes (cxOf (L2.CX P w) P w K mg base N qual (defScope st) f cdv A outer s H E) (fun c d _ H => E c d H) →
      PassesOwn (model P w) (cxOf (L2.CX P w) P w K mg base N qual (defScope st) f cdv A outer s H E).A (cxOf (L2.CX P w) P w K mg base N qual (defScope st) f cdv A outer s H E).env (cxOf (L2.CX P w) P w K mg base N qual (defScope st) f cdv A outer s H E).xe →
      Dss (cxOf (L2.CX P w) P w K mg base N qual (defScope st) f cdv A outer s H E) (fun c d _ H => E c d H) (defBody st) body) :
    FnG P w K mg base (L2.CX P w) (k + 1) f fd ps (spF K mg ps.length (fnF N.length body)) := by
  obtain ⟨oc, od, kV, doc, pm, an, cdv, ct, osl, rfl, lk, hcd⟩ := Fu.ex
  refine fnG_of lk hcd Sc (fun vs H Q E h => h.1) fun A outer s H vs Q E hG hr h => ?_
  obtain ⟨hl, S, ds, rfl, ok, r, q⟩ := h
  refine ⟨_, hb cdv A outer s S.H E hG hr (takes_of rfl rfl rfl rfl) (passes_of rfl) S, ?_⟩
  refine ⟨S, envOf N.length ds, rfl, ok, env_start r, Ext.refl S, ?_⟩
  unfold fnF at q
  cases e : body (envOf N.length ds) S.st with
  | nx env st' => rw [e] at q; exact fun σ' S' ok' x' es er => q .non S' x'.x ok' es .non
  | rt d st' => rw [e] at q; exact fun v S' ok' x' es r => q v S' x'.x ok' es r
  | ex c fs env st' => rw [e] at q; exact fun σ' S' cls dx ok' x' es er r => q S' cls dx x'.x ok' es r
  | bk env st' => rw [e] at q; exact q.elim
  | ct env st' => rw [e] at q; exact q.elim
  | bad => rw [e] at q; exact q
def dRepr : List Dat → Option Dat
  | [d] => match toPy d with
    | some p => if p.showable && decide (p.depth ≤ 64) && decide (p.shown.length ≤ 1000000) then some (.str p.shown) else none
    | none => none
  | _ => none
def rRepr (K : PySem.W.Frag) : List V → Hp → VK → Prop := fun xs H Q => ∃ x d, xs = [x] ∧ Dp K H x d ∧ d.showable = true ∧ d.depth ≤ 64 ∧ d.shown.length ≤ 1000000 ∧ d.hasDict = false ∧ Q (.str d.shown) H
mutual
theorem toPy_nodict : ∀ {d : Dat} {p : PyData}, toPy d = some p → p.hasDict = false
  | .non, _, e => by cases e; rfl
  | .bl _, _, e => by cases e; rfl
  | .int _, _, e => by cases e; rfl
  | .str _, _, e => by cases e; rfl
  | .tup ds, p, e => by
    have e : (toPyL ds).map PyData.tuple = some p := e
    cases e1 : toPyL ds with
    | none => rw [e1] at e; cases e
    | some as => rw [e1] at e; cases e; show PyData.hasDictAll as = false; exact toPyL_nodict e1
  | .lst ds, p, e => by
    have e : (toPyL ds).map PyData.list = some p := e
    cases e1 : toPyL ds with
    | none => rw [e1] at e; cases e
    | some as => rw [e1] at e; cases e; show PyData.hasDictAll as = false; exact toPyL_nodict e1
  | .scr ds, p, e => by
    have e : (toPyL ds).map PyData.list = some p := e
    cases e1 : toPyL ds with
    | none => rw [e1] at e; cases e
    | some as => rw [e1] at e; cases e; show PyData.hasDictAll as = false; exact toPyL_nodict e1
  | .obj _ _, _, e => by cases e
  | .loc _, _, e => by cases e
  | .fn _, _, e => by cases e
theorem toPyL_nodict : ∀ {ds : List Dat} {ps : List PyData}, toPyL ds = some ps → PyData.hasDictAll ps = false
  | [], _, e => by cases e; rfl
  | d :: ds, ps, e => by
    have e : (toPy d).bind (fun a => (toPyL ds).bind fun as => some (a :: as)) = some ps := e
    cases e1 : toPy d with
    | none => rw [e1] at e; cases e
    | some a =>
      rw [e1] at e
      cases e2 : toPyL ds with
      | none => rw [e2] at e; cases e
      | some as =>
        rw [e2] at e
        cases e
        show (PyData.hasDict a || PyData.hasDictAll as) = false
        rw [toPy_nodict e1, toPyL_nodict e2]
        rfl
end
theorem b_repr : ClR K mg (rRepr K) dRepr := fun S vs ds d Q ok r e q => by
  unfold dRepr at e
  split at e
  · split at e
    · rename_i d0 p e1
      split at e
      · rename_i h
        cases e
        obtain ⟨v, rfl, rv⟩ := one_rep r
        simp only [Bool.and_eq_true, decide_eq_true_eq] at h
        exact ⟨v, p, rfl, rep_dp ok rv e1, h.1.1, h.1.2, h.2, toPy_nodict e1, q _ S (Ext.refl S) ok rfl (.str _)⟩
      · cases e
    · cases e
  · cases e
theorem call_reprD (hG : X.A.guards = some []) (hr : Room k X.A) : CallR X (.builtin "repr") (rRepr X.K) := by
  intro pins s σ H xs us Q I r h
  obtain ⟨x, d, rfl, hd, h1, h2, h3, h4, q⟩ := h
  obtain ⟨u, rfl, rx⟩ := vals1 r
  obtain ⟨as, rd⟩ := Dp.reads I d x u hd rx
  have hun : X.A.units + (d.depth + 1) < cLine := by have := hr.un; omega
  have hsz := small_of h3
  cases hd with
  | non => cases rx; exact PySem.P.repr_of_none ⟨.str _, H, I.tok _, ⟨_, rfl⟩, q⟩
  | bl b => cases rx; exact PySem.P.repr_of_bool ⟨.str _, H, I.tok _, ⟨_, rfl⟩, q⟩
  | int i =>
    obtain ⟨t, rfl⟩ := rx
    exact PySem.P.repr_of_int (of_decide_eq_true h1) ⟨.str _, H, I.tok _, ⟨_, rfl⟩, q⟩
  | str z =>
    obtain ⟨t, rfl⟩ := rx
    exact PySem.P.repr_of_str ⟨.str _, H, I.tok _, ⟨_, rfl⟩, q⟩ hsz
  | lst hs ha =>
    cases rx
    exact repr_of_reads' rd h1 (fun z => by rw [h4] at z; cases z) hG hun (fun _ _ e => e) (fun h' t tk hk => ⟨.str _, H, I.kept (t' := tk) hk, ⟨_, rfl⟩, q⟩) hsz
  | tup hs ha =>
    cases rx
    exact repr_of_reads' rd h1 (fun z => by rw [h4] at z; cases z) hG hun (fun _ _ e => e) (fun h' t tk hk => ⟨.str _, H, I.kept (t' := tk) hk, ⟨_, rfl⟩, q⟩) hsz
end
end GI
set_option Elab.async false
set_option linter.all false
set_option maxRecDepth 100000
set_option maxHeartbeats 2000000
namespace GI
open PySem PySem.Spec PyProof.Rows L2
def kget (kvs : List (Str × Dat)) (k : Str) : Option Dat := match kvs with
  | [] => none
  | (x, d) :: r => if x = k then some d else kget r k
def kput (kvs : List (Str × Dat)) (k : Str) (d : Dat) : Option (List (Str × Dat)) := match kvs with
  | [] => none
  | (x, e) :: r => if x = k then some ((x, d) :: r) else (kput r k d).map ((x, e) :: ·)
def sGet (fa : Ev) (k : Str) : Ev := fun env st => (fa env st).bind fun d st1 => match d with
  | .loc n => match st1[n]? with
    | some (.dk kvs) => Out.of (kget kvs k) st1
    | none => .bad
  | _ => .bad
def sPut (fa : Ev) (k : Str) (fv : Ev) : Exe := fun env st => (fv env st).go env fun v st1 => (fa env st1).go env fun d st2 => match d with
  | .loc n => match st2[n]? with
    | some (.dk kvs) => match kput kvs k v with
      | some kvs' => .nx env (st2.set n (.dk kvs'))
      | none => .bad
    | none => .bad
  | _ => .bad
section
variable {K : PySem.W.Frag} {mg : Str → Option Value} {S : Sx}
abbrev KP (K : PySem.W.Frag) (mg : Str → Option Value) (S : Sx) : List (Key × V) → List (Str × Dat) → Prop := Paired (fun (e : Key × V) (kv : Str × Dat) => e.1 = Sum.inr kv.1 ∧ RepS K mg S e.2 kv.2)
theorem kp_get {k : Str} {d : Dat} : ∀ {es : List (Key × V)} {kvs : List (Str × Dat)}, KP K mg S es kvs → kget kvs k = some d → ∃ v, valV es (Sum.inr k) = some v ∧ RepS K mg S v d
  | _, _, .nil, h => by cases h
  | (e1, e2) :: es, (x, d') :: kvs, .cons h t, e => by
    obtain ⟨h1, h2⟩ := h
    have h1 : e1 = Sum.inr x := h1
    subst h1
    unfold kget at e
    by_cases z : x = k
    · subst z
      rw [if_pos rfl] at e
      cases e
      exact ⟨e2, valV_pos rfl, h2⟩
    · rw [if_neg z] at e
      obtain ⟨v, e1, r⟩ := kp_get t e
      refine ⟨v, ?_, r⟩
      unfold valV at e1 ⊢
      rw [List.find?_cons]
      have : decide ((Sum.inr x : Key) = Sum.inr k) = false := decide_eq_false fun q => z (Sum.inr.inj q)
      rw [this]
      exact e1
theorem kput_any {k : Str} {d : Dat} : ∀ {kvs kvs' : List (Str × Dat)}, kput kvs k d = some kvs' → ∃ e, kget kvs k = some e
  | [], _, h => by cases h
  | (x, e) :: r, kvs', h => by
    unfold kput at h
    unfold kget
    by_cases z : x = k
    · rw [if_pos z]; exact ⟨e, rfl⟩
    · rw [if_neg z] at h ⊢
      cases h1 : kput r k d with
      | none => rw [h1] at h; cases h
      | some r' => exact kput_any h1
/-- keys once -/
def kuniq (kvs : List (Str × Dat)) : Prop := (kvs.map (·.1)).Nodup
theorem kp_map_ne {k : Str} {v : V} : ∀ {es : List (Key × V)} {kvs : List (Str × Dat)}, KP K mg S es kvs → k ∉ kvs.map (·.1) → es.map (fun kv => if kv.1 = Sum.inr k then (kv.1, v) else kv) = es
  | _, _, .nil, _ => rfl
  | (e1, e2) :: es, (x, d') :: kvs, .cons h t, hn => by
    have h1 : e1 = Sum.inr x := h.1
    subst h1
    have z : x ≠ k := fun z => hn (by simp [z])
    rw [List.map_cons, if_neg (fun q => z (Sum.inr.inj q)), kp_map_ne t fun q => hn (List.mem_cons_of_mem _ q)]
theorem kp_put {k : Str} {d : Dat} {v : V} (r : RepS K mg S v d) : ∀ {es : List (Key × V)} {kvs kvs' : List (Str × Dat)}, KP K mg S es kvs → kuniq kvs → kput kvs k d = some kvs' → (es.any fun kv => decide (kv.1 = Sum.inr k)) = true ∧ KP K mg S (es.map fun kv => if kv.1 = Sum.inr k then (kv.1, v) else kv) kvs'
  | _, _, _, .nil, _, h => by cases h
  | (e1, e2) :: es, (x, d') :: kvs, kvs', .cons h t, hu, e => by
    obtain ⟨h1, h2⟩ := h
    have h1 : e1 = Sum.inr x := h1
    subst h1
    have hu : x ∉ kvs.map (·.1) ∧ (kvs.map (·.1)).Nodup := List.nodup_cons.mp hu
    unfold kput at e
    by_cases z : x = k
    · subst z
      rw [if_pos rfl] at e
      cases e
      refine ⟨by simp, ?_⟩
      rw [List.map_cons, if_pos rfl, kp_map_ne t hu.1]
      exact .cons ⟨rfl, r⟩ t
    · rw [if_neg z] at e
      cases h1 : kput kvs k d with
      | none => rw [h1] at e; cases e
      | some r' =>
        rw [h1] at e
        cases e
        obtain ⟨a1, a2⟩ := kp_put r t hu.2 h1
        refine ⟨by rw [List.any_cons, a1, Bool.or_true], ?_⟩
        rw [List.map_cons, if_neg (fun q => z (Sum.inr.inj q))]
        exact .cons ⟨rfl, h2⟩ a2
end
section
variable {X : Cx} {W : WX} {a b e v : Expr} {fa fb f fv : Ev} {pos pos' : Pos} {k : Nat}
theorem d_get {x : Str} {j : Nat} {p : Pos} (hr : Room k X.A) (ha : De X W a fa) (hs : NoSl (.Constant (.str x) j p)) : De X W (.Subscript a (.Constant (.str x) j p) pos) (sGet fa x) := fun S0 => by
  refine peW (pe_dget (hu_of hr) (ha S0) pe_str hs) fun σ H Q q => ?_
  obtain ⟨S, env, rfl, ok, er, q⟩ := q
  refine ⟨S, env, rfl, ok, er, q.imp fun d st q1 v S1 x1 ok1 e1 r1 => ?_⟩
  subst e1
  cases d with
  | loc n =>
    dsimp only at q1
    cases r1 with
    | loc hn =>
      rename_i ad
      cases eo : S1.st[n]? with
      | none => rw [eo] at q1; exact q1.elim
      | some o =>
        rw [eo] at q1
        cases o with
        | dk kvs =>
          dsimp only at q1
          obtain ⟨es, h1, h2, hu⟩ := ok1.here n ad _ hn eo
          cases eg : kget kvs x with
          | none => rw [eg] at q1; exact q1.elim
          | some d =>
            rw [eg] at q1
            obtain ⟨v, e2, rv⟩ := kp_get h2 eg
            refine ⟨ad, v, rfl, ?_, q1 v S1 x1 ok1 rfl rv⟩
            have := DGet.k (k := Sum.inr x) h1
            rw [e2] at this
            exact this
  | _ => exact (show False from q1).elim
theorem nd_ix {α : Type} : ∀ {l : List α} {i j : Nat} {x : α}, l.Nodup → l[i]? = some x → l[j]? = some x → i = j
  | [], _, _, _, _, h, _ => by simp at h
  | _ :: _, 0, 0, _, _, _, _ => rfl
  | a :: l, 0, j + 1, x, nd, h1, h2 => by
    simp at h1 h2
    subst h1
    exact absurd (List.mem_of_getElem? h2) (List.nodup_cons.mp nd).1
  | a :: l, i + 1, 0, x, nd, h1, h2 => by
    simp at h1 h2
    subst h2
    exact absurd (List.mem_of_getElem? h1) (List.nodup_cons.mp nd).1
  | a :: l, i + 1, j + 1, x, nd, h1, h2 => by
    have h1 : l[i]? = some x := by simpa using h1
    have h2 : l[j]? = some x := by simpa using h2
    exact congrArg (· + 1) (nd_ix (List.nodup_cons.mp nd).2 h1 h2)
/-- the thing at n changes -/
theorem SOk.setSt {K : PySem.W.Frag} {mg : Str → Option Value} {S : Sx} (ok : SOk K mg S) {n : Nat} {p : Addr} {es : List (Key × V)} {kvs : List (Str × Dat)} (hn : S.r[n]? = some p) (h : KP K mg S es kvs) (hu : (kvs.map (·.1)).Nodup ∧ kvs.length ≤ 1000) :
    SOk K mg { S with H := upd S.H p (.dK es), st := S.st.set n (.dk kvs) } where
  sub := fun a u e => by
    show upd S.H p _ a = some u
    have z : a ≠ p := fun z => by
      subst z
      have e : S.G a = some u := e
      rw [ok.out a (List.mem_of_getElem? hn)] at e; cases e
    rw [upd_ne z]; exact ok.sub a u e
  len := by rw [List.length_set]; exact ok.len
  nd := ok.nd
  out := ok.out
  here := fun m a o h1 h2 => by
    have h1 : S.r[m]? = some a := h1
    have h2 : (S.st.set n (.dk kvs))[m]? = some o := h2
    by_cases z : m = n
    · subst z
      rw [hn] at h1
      cases h1
      have hl : m < S.st.length := by rw [← ok.len]; exact (List.getElem?_eq_some_iff.mp hn).1
      rw [List.getElem?_set_self hl] at h2
      cases h2
      exact ⟨es, upd_same, h, hu⟩
    · rw [List.getElem?_set_ne (Ne.symm z)] at h2
      have q := ok.here m a o h1 h2
      have za : a ≠ p := fun q => by
        subst q
        exact z (nd_ix ok.nd h1 hn)
      cases o with
      | dk kvs2 =>
        obtain ⟨es2, e, pr, hu2⟩ := q
        exact ⟨es2, by show upd S.H p _ a = _; rw [upd_ne za]; exact e, pr, hu2⟩
theorem Ext.setSt {S0 S : Sx} (x : Ext S0 S) {p : Addr} (hp : p ∈ S.r) (o : HO) (st : Sto) : Ext S0 { S with H := upd S.H p o, st := st } where
  me := x.me
  gle := x.gle
  pre := x.pre
  keep := fun a u e n => by
    show upd S.H p o a = some u
    have z : a ≠ p := fun z => by
      subst z
      rcases x.new a hp with q | q
      · exact n q
      · rw [e] at q; cases q
    rw [upd_ne z]; exact x.keep a u e n
  nof := x.nof
  new := x.new
theorem EnvRep.setSt {K : PySem.W.Frag} {mg : Str → Option Value} {S0 S : Sx} {σ : L2.St} {env : Env} (h : EnvRep K mg S0 S σ env) {p : Addr} (hp : p ∈ S.r) (o : HO) (st : Sto) : EnvRep K mg S0 { S with H := upd S.H p o, st := st } σ env := by
  obtain ⟨hl, A, h1, h2, h3⟩ := h
  refine ⟨hl, A, fun i s e => ?_, fun i a ha => ?_, h3⟩
  · obtain ⟨v, e1, q⟩ := h1 i s e
    refine ⟨v, e1, ?_⟩
    refine SlotRep.agree (S := S) q ⟨fun _ _ h => h, List.prefix_refl _, rfl⟩ fun p2 hp2 o' e2 => ?_
    show upd S.H p o p2 = _
    have z : p2 ≠ p := fun z => (h2 i p2 hp2).2.2.1 (z ▸ hp)
    rw [upd_ne z]; exact e2
  · obtain ⟨a1, a2, a3, u, a4⟩ := h2 i a ha
    refine ⟨a1, a2, a3, u, ?_⟩
    show upd S.H p o a = _
    have z : a ≠ p := fun z => a3 (z ▸ hp)
    rw [upd_ne z]; exact a4
theorem kput_keys {k : Str} {d : Dat} : ∀ {kvs kvs' : List (Str × Dat)}, kput kvs k d = some kvs' → kvs'.map (·.1) = kvs.map (·.1)
  | [], _, h => by cases h
  | (x, e) :: r, kvs', h => by
    unfold kput at h
    by_cases z : x = k
    · rw [if_pos z] at h
      cases h
      rfl
    · rw [if_neg z] at h
      cases h1 : kput r k d with
      | none => rw [h1] at h; cases h
      | some r' =>
        rw [h1] at h
        cases h
        show x :: r'.map (·.1) = x :: r.map (·.1)
        rw [kput_keys h1]
theorem ds_put {x : Str} {j : Nat} {p : Pos} (hr : Room k X.A) (ha : De X W a fa) (hv : De X W v fv) (hs : swapsWith v (some (.Subscript a (.Constant (.str x) j p) pos')) pos.line X.env = pure false := by rfl) :
    Ds X W (.Assign [.Subscript a (.Constant (.str x) j p) pos'] v pos) (sPut fa x fv) := fun S0 => by
  refine psW (ps_dput (hu_of hr) (ha S0) pe_str (hv S0) hs) fun D σ H q => ?_
  rw [tS_eq] at q
  obtain ⟨S, env, rfl, ok, er, x0, q⟩ := q
  refine ⟨S, env, rfl, ok, er, outS.of ok er x0 q fun dv st1 z1 y S1 x1 ok1 e1 r1 => ?_⟩
  subst e1
  refine ⟨S1, env, rfl, ok1, er.ext x1, outS.of ok1 (er.ext x1) (Ext.trans ok x0 x1) (outS.later z1 x1.gx) fun d st2 z2 o S2 x2 ok2 e2 r2 => ?_⟩
  subst e2
  cases d with
  | loc n =>
    try dsimp only at z2
    cases r2 with
    | loc hn =>
      rename_i ad
      cases eo : S2.st[n]? with
      | none => rw [eo] at z2; exact z2.elim
      | some o =>
        rw [eo] at z2
        cases o with
        | dk kvs =>
          try dsimp only at z2
          obtain ⟨es, h1, h2, hu⟩ := ok2.here n ad _ hn eo
          cases ek : kput kvs x dv with
          | none => rw [ek] at z2; exact z2.elim
          | some kvs' =>
            rw [ek] at z2
            have rv2 : RepS X.K X.mg S2 y dv := r1.ext x2
            obtain ⟨a1, a2⟩ := kp_put rv2 h2 hu.1 ek
            have hl : es.length = kvs.length := Paired.length h2
            refine ⟨ad, _, rfl, DPut.k (k := Sum.inr x) h1 (by rw [hl, sizeLine_eq]; omega), ?_⟩
            have ep : putK es (Sum.inr x) y = es.map (fun kv => if kv.1 = Sum.inr x then (kv.1, y) else kv) := by
              unfold putK
              rw [if_pos a1]
            rw [ep]
            have hm : ad ∈ S2.r := List.mem_of_getElem? hn
            have hk := kput_keys ek
            have hu' : (kvs'.map (·.1)).Nodup ∧ kvs'.length ≤ 1000 := ⟨by rw [hk]; exact hu.1, by have := congrArg List.length hk; simp only [List.length_map] at this; omega⟩
            exact z2 σ { S2 with H := upd S2.H ad (.dK (es.map fun kv => if kv.1 = Sum.inr x then (kv.1, y) else kv)), st := S2.st.set n (.dk kvs') } (ok2.setSt hn a2 hu') ⟨(Ext.trans ok1 (Ext.trans ok x0 x1) x2).setSt hm _ _, ⟨x2.gle, x2.pre, x2.me⟩⟩ rfl
              (((er.ext x1).ext x2).setSt hm _ _)
  | _ => exact (show False from z2).elim
def sDict (ks : List Str) (fl : EvL) : Ev := fun env st => (fl env st).bind fun ds st1 => if ds.length = ks.length then .ok (.loc st1.length) (st1 ++ [.dk (ks.zip ds)]) else .bad
/-- a new thing of the store -/
theorem SOk.addSt {K : PySem.W.Frag} {mg : Str → Option Value} {S : Sx} (ok : SOk K mg S) {p : Addr} {es : List (Key × V)} {kvs : List (Str × Dat)} (hg : S.G p = none) (hr : p ∉ S.r) (h : KP K mg S es kvs) (hu : (kvs.map (·.1)).Nodup ∧ kvs.length ≤ 1000) :
    SOk K mg { S with H := upd S.H p (.dK es), r := S.r ++ [p], st := S.st ++ [.dk kvs] } where
  sub := fun a u e => by
    show upd S.H p _ a = some u
    rw [upd_ne (ne_of_none e hg)]; exact ok.sub a u e
  len := by simp [ok.len]
  nd := by
    show (S.r ++ [p]).Nodup
    rw [List.nodup_append]
    refine ⟨ok.nd, by simp, fun a ha b hb => ?_⟩
    have : b = p := by simpa using hb
    subst this
    exact fun z => hr (z ▸ ha)
  out := fun a ha => by
    show S.G a = none
    rcases List.mem_append.mp ha with q | q
    · exact ok.out a q
    · have : a = p := by simpa using q
      subst this
      exact hg
  here := fun m a o h1 h2 => by
    have h1 : (S.r ++ [p])[m]? = some a := h1
    have h2 : (S.st ++ [.dk kvs])[m]? = some o := h2
    have mono : ∀ {v : V} {d : Dat}, RepS K mg S v d → Rep K mg S.G (S.r ++ [p]) v d := fun z => z.mono (fun _ _ e => e) (List.prefix_append _ _)
    by_cases z : m < S.r.length
    · rw [List.getElem?_append_left z] at h1
      rw [List.getElem?_append_left (by rw [← ok.len]; exact z)] at h2
      have q := ok.here m a o h1 h2
      have za : a ≠ p := fun q => hr (q ▸ List.mem_of_getElem? h1)
      cases o with
      | dk kvs2 =>
        obtain ⟨es2, e, pr, hu2⟩ := q
        exact ⟨es2, by show upd S.H p _ a = _; rw [upd_ne za]; exact e, Paired.mapP pr fun _ _ w => ⟨w.1, mono w.2⟩, hu2⟩
    · have hm : m = S.r.length := by
        have := (List.getElem?_eq_some_iff.mp h1).1
        simp at this
        omega
      subst hm
      rw [List.getElem?_append_right (Nat.le_refl _), Nat.sub_self] at h1
      rw [ok.len, List.getElem?_append_right (Nat.le_refl _), Nat.sub_self] at h2
      cases h1
      cases h2
      exact ⟨es, upd_same, Paired.mapP h fun _ _ w => ⟨w.1, mono w.2⟩, hu⟩
theorem Ext.addSt {S0 S : Sx} (x : Ext S0 S) {p : Addr} (hp : S0.H p = none) (o : HO) (st : Sto) : Ext S0 { S with H := upd S.H p o, r := S.r ++ [p], st := st } where
  me := x.me
  gle := x.gle
  pre := x.pre.trans (List.prefix_append _ _)
  keep := fun a u e n => by
    show upd S.H p o a = some u
    rw [upd_ne (ne_of_none e hp)]; exact x.keep a u e n
  nof := x.nof
  new := fun a ha => by
    rcases List.mem_append.mp ha with q | q
    · exact x.new a q
    · have : a = p := by simpa using q
      subst this
      exact .inr hp
/-- the values of a display with written text keys -/
def Dps (X : Cx) (W : WX) (pos : Pos) (keys : List (Option Expr)) (values : List Expr) (ks : List Str) (fl : EvL) : Prop := ∀ S0, ∃ trs, PPs X pos keys values trs ∧ ∀ (σ : L2.St) (H : Hp) (Q : List (V × V) → Hp → Prop),
  tEs X.K X.mg S0 W fl σ H (fun vs H1 => ∀ ps, ps = (ks.zip vs).map (fun p => (V.str p.1, p.2)) → vs.length = ks.length → Q ps H1) → tPairs trs σ H Q
theorem dps_nil : Dps X W pos [] [] [] sNil := fun S0 => ⟨_, pps_nil, fun σ H Q q => by
  obtain ⟨S, env, rfl, ok, er, q⟩ := q
  exact q [] S (Ext.refl S) ok rfl .nil [] rfl rfl⟩
theorem dps_cons {x : Str} {j : Nat} {p : Pos} {keys : List (Option Expr)} {values : List Expr} {ks : List Str} {fl : EvL} (hv : De X W v fv) (hr : Dps X W pos keys values ks fl) : Dps X W pos (some (.Constant (.str x) j p) :: keys) (v :: values) (x :: ks) (sCons fv fl) := fun S0 => by
  obtain ⟨trs, h1, h2⟩ := hr S0
  refine ⟨_, pps_cons pe_str (hv S0) h1, fun σ H Q q => ?_⟩
  obtain ⟨S, env, rfl, ok, er, q⟩ := q
  refine ⟨S, env, rfl, ok, er, q.imp fun d st q1 y S1 x1 ok1 e1 r1 => ?_⟩
  subst e1
  refine h2 σ S1.H _ ⟨S1, env, rfl, ok1, er.ext x1, outE.imp (q1.later ok1 x1 fun d st z v S' xx ok' => z v S' (Ext.trans ok1 x1 xx) ok') fun ds st2 q2 vs S2 x2 ok2 e2 r2 ps hps hl => ?_⟩
  subst hps
  exact q2 (y :: vs) S2 x2 ok2 e2 (.cons (r1.ext x2) r2) _ rfl (congrArg (· + 1) hl)
theorem mergeK_new : ∀ (more acc : List (Key × V)), (more.map (·.1)).Nodup → (∀ k ∈ more.map (·.1), k ∉ acc.map (·.1)) → mergeK acc more = acc ++ more
  | [], acc, _, _ => (List.append_nil acc).symm
  | (k, v) :: r, acc, nd, hn => by
    have nd : k ∉ r.map (·.1) ∧ (r.map (·.1)).Nodup := List.nodup_cons.mp nd
    have hk : k ∉ acc.map (·.1) := hn k (by simp)
    have e : putK acc k v = acc ++ [(k, v)] := by
      unfold putK
      rw [if_neg]
      intro h
      obtain ⟨p, hp, e⟩ := List.any_eq_true.mp h
      exact hk (List.mem_map.mpr ⟨p, hp, of_decide_eq_true e⟩)
    show mergeK (putK acc k v) r = _
    rw [e, mergeK_new r _ nd.2 fun k' hk' => ?_, List.append_assoc]
    · rfl
    · rw [List.map_append]
      intro h
      rcases List.mem_append.mp h with q | q
      · exact hn k' (List.mem_cons_of_mem _ hk') q
      · have : k' = k := by simpa using q
        subst this
        exact nd.1 hk'
theorem kp_zip {K : PySem.W.Frag} {mg : Str → Option Value} {S : Sx} : ∀ {ks : List Str} {vs : List V} {ds : List Dat}, RepSL K mg S vs ds → KP K mg S ((ks.zip vs).map fun p => (Sum.inr p.1, p.2)) (ks.zip ds)
  | [], _, _, _ => by simp; exact .nil
  | _ :: _, _, _, .nil => .nil
  | _ :: _, _, _, .cons h t => .cons ⟨rfl, h⟩ (kp_zip t)
theorem d_dict {keys : List (Option Expr)} {values : List Expr} {ks : List Str} {fl : EvL} (h : Dps X W pos keys values ks fl) (hall : keys.all (·.isSome) = true) (hl : keys.length = values.length) (h0 : keys ≠ []) (h15 : keys.length ≤ 15) (hkl : ks.length = keys.length) (hnd : ks.Nodup) :
    De X W (.Dict keys values pos) (sDict ks fl) := fun S0 => by
  obtain ⟨trs, h1, h2⟩ := h S0
  refine peW (pe_disp h1 hall hl h0 h15) fun σ H Q q p hp => ?_
  obtain ⟨S, env, rfl, ok, er, q⟩ := q
  have xl := Ext.lay ok hp (.dK [])
  have okl := ok.lay hp (.dK [])
  refine h2 σ _ _ ⟨S.lay p (.dK []), env, rfl, okl, er.ext xl, ?_⟩
  show outE X.K X.mg W σ (S.lay p (.dK [])) (fl env S.st) _
  have q : outE X.K X.mg W σ S ((fl env S.st).bind fun ds st1 => if ds.length = ks.length then Out.ok (Dat.loc st1.length) (st1 ++ [.dk (ks.zip ds)]) else .bad) _ := q
  refine outE.imp (q.later okl xl fun d st z => z) fun ds st1 q1 vs S2 x2 ok2 e2 r2 ps hps hlen => ?_
  subst e2
  subst hps
  by_cases hz : ds.length = ks.length
  · rw [if_pos hz] at q1
    have hp2 : S2.H p = some (.dK []) := x2.keep p _ upd_same (ok.nor hp)
    have hg2 : S2.G p = none := x2.nof p _ upd_same (ok.noG hp)
    have hr2 : p ∉ S2.r := fun hm => by
      rcases x2.new p hm with q | q
      · exact ok.nor hp q
      · have q : upd S.H p (.dK []) p = none := q
        rw [upd_same] at q; cases q
    refine ⟨hp2, (ks.zip vs).map fun p => (Sum.inr p.1, p.2), by simp only [List.map_map]; rfl, ?_, ?_⟩
    · rw [List.length_map, List.length_zip]
      omega
    · have hkeys : (((ks.zip vs).map fun p => ((Sum.inr p.1 : Key), p.2)).map (·.1)) = ks.map Sum.inr := by
        rw [List.map_map]
        have : ((fun x : Key × V => x.1) ∘ fun p : Str × V => ((Sum.inr p.1 : Key), p.2)) = (fun p : Str × V => (Sum.inr p.1 : Key)) := rfl
        rw [this]
        have e1 : (ks.zip vs).map (fun p : Str × V => (Sum.inr p.1 : Key)) = ((ks.zip vs).map (·.1)).map Sum.inr := by rw [List.map_map]; rfl
        rw [e1, List.map_fst_zip (by omega)]
      have hnd2 : (((ks.zip vs).map fun p => ((Sum.inr p.1 : Key), p.2)).map (·.1)).Nodup := by
        rw [hkeys]
        exact List.Pairwise.map _ (fun a b h z => h (Sum.inr.inj z)) hnd
      have em := mergeK_new ((ks.zip vs).map fun p => ((Sum.inr p.1 : Key), p.2)) [] hnd2 (fun k _ z => by simp at z)
      rw [em, List.nil_append]
      have hfst : (ks.zip ds).map (·.1) = ks := List.map_fst_zip (by omega)
      have hu : ((ks.zip ds).map (·.1)).Nodup ∧ (ks.zip ds).length ≤ 1000 := ⟨by rw [hfst]; exact hnd, by rw [List.length_zip]; omega⟩
      refine q1 (.ref p) { S2 with H := upd S2.H p (.dK ((ks.zip vs).map fun p => (Sum.inr p.1, p.2))), r := S2.r ++ [p], st := S2.st ++ [.dk (ks.zip ds)] } ((Ext.trans okl xl x2).addSt hp _ _) (ok2.addSt hg2 hr2 (kp_zip r2) hu) rfl (.loc ?_)
      show (S2.r ++ [p])[S2.st.length]? = some p
      rw [← ok2.len, List.getElem?_append_right (Nat.le_refl _), Nat.sub_self]
      rfl
  · rw [if_neg hz] at q1
    exact q1.elim
def tyD : Dat → Option String
  | .non => some "NoneType"
  | .bl _ => some "bool"
  | .int _ => some "int"
  | .str _ => some "str"
  | .tup _ => some "tuple"
  | .lst _ => some "list"
  | _ => none
def dIsi (T : String) (d : Dat) : Option Dat := match tyD d with
  | some t => (kitB t T).map Dat.bl
  | none => none
theorem rep_ty {K : PySem.W.Frag} {mg : Str → Option Value} {S : Sx} {x : V} {d : Dat} {t : String} (ok : SOk K mg S) (r : RepS K mg S x d) (h : tyD d = some t) : TyX K S.H x (.type t) := by
  cases r with
  | non => cases h; exact .base .non
  | bl b => cases h; exact .base (.bl b)
  | int b => cases h; exact .base (.int b)
  | str b => cases h; exact .base (.str b)
  | tup hs _ =>
    cases h
    rcases sqT_H ok hs with (q | ⟨o, q⟩) | ⟨o, its, n, q1, q2, _⟩
    · exact .base (.tup q)
    · exact .fTuple q
    · exact .kTuple q1 q2
  | lst hs _ => cases h; exact .base (.lst (ok.sub _ _ hs))
  | _ => cases h
/-- isinstance's second argument is written: T -/
def sIsi (T : String) (fa : Ev) : Ev := s1 (dIsi T) fa
theorem d_isi {y : Str} {T : String} {p py : Pos} (hg : Gl X "isinstance") (hm : X.mg "isinstance" = none) (ha : De X W a fa) (hgy : Gl X y) (hmy : X.mg y = none) (hby : bootBuiltins y = some (.type T)) (hn : y ≠ "__name__" := by decide) (hdb : (y == ("__debug__" : Str)) = false := by decide)
    (he : starEach [a, .Name y py] X.env = (false, eval a X.env) :: starEach [.Name y py] X.env := by rfl) (he2 : starEach [.Name y py] X.env = (false, eval (.Name y py) X.env) :: starEach [] X.env := by rfl) (hpl : (backTo pos (starEach [.Name y py] X.env)).any (·.1) = false := by rfl) :
    De X W (.Call (.Name "isinstance" p) [a, .Name y py] [] pos) (sIsi T fa) := fun S0 => by
  refine peW (pe_callB call_isi hg hm PyProof.Rows.boot_isinstance (pa_cons (ha S0) (pa_cons (pe_bltn (v := .ty T) hgy hmy hby rfl hn hdb) pa_nil he2) he) (by decide) (by decide) he hpl) fun σ H Q q => ?_
  obtain ⟨S, env, rfl, ok, er, q⟩ := q
  refine ⟨S, env, rfl, ok, er, q.imp fun dx st1 q1 x S1 x1 ok1 e1 r1 => ?_⟩
  subst e1
  cases e : dIsi T dx with
  | none => rw [e] at q1; exact q1.elim
  | some d =>
    rw [e] at q1
    unfold dIsi at e
    cases et : tyD dx with
    | none => rw [et] at e; cases e
    | some t =>
      rw [et] at e
      dsimp only at e
      cases ek : kitB t T with
      | none => rw [ek] at e; cases e
      | some b =>
        rw [ek] at e
        cases e
        exact ⟨x, .ty T, .type t, .type T, b, rfl, .ty T, rep_ty ok1 r1 et, kit_ty ek, q1 _ S1 x1 ok1 rfl (.bl b)⟩
end
end GI
namespace GI
open PySem PySem.Spec PyProof.Rows L2
theorem relabel_look {env : PySem.Env} {k0 : NameKind} : ∀ {names : List (Str × NameKind)} {x : Str}, names.lookup x = some k0 →
    (names.map fun (n, k) => if (k == NameKind.free && env.scope.kind == .function && env.kindOf n == some .cell) then (n, NameKind.cell) else (n, k)).lookup x = some k0 ∨
    (k0 = .free ∧ (names.map fun (n, k) => if (k == NameKind.free && env.scope.kind == .function && env.kindOf n == some .cell) then (n, NameKind.cell) else (n, k)).lookup x = some .cell)
  | [], _, h => by simp at h
  | (n, k) :: r, x, h => by
    have ih := @relabel_look env k0 r x
    rw [List.map_cons]
    cases hx : x == n with
    | true =>
      simp only [List.lookup_cons, hx] at h
      cases h
      by_cases hc : (k0 == NameKind.free && env.scope.kind == .function && env.kindOf n == some .cell) = true
      · refine .inr ⟨?_, by simp only [if_pos hc, List.lookup_cons, hx]⟩
        rw [Bool.and_eq_true, Bool.and_eq_true] at hc
        have h1 := hc.1.1
        cases k0 <;> first | rfl | (revert h1; decide)
      · exact .inl (by simp only [if_neg hc, List.lookup_cons, hx])
    | false =>
      simp only [List.lookup_cons, hx] at h
      by_cases hc : (k == NameKind.free && env.scope.kind == .function && env.kindOf n == some .cell) = true
      · simp only [if_pos hc, List.lookup_cons, hx]; exact ih h
      · simp only [if_neg hc, List.lookup_cons, hx]; exact ih h
section
variable {X : Cx} {s : Shared} {H : Hp} {scope : Scope} {cl : List (Str × Addr)} {C : Addr} {fp : List Addr} {x : Str}
theorem blk_free (h : scope.names.lookup x = some .free) : Vis (X.blk s H scope (compEnvC scope cl C X.env) fp).env.scope x := by
  rcases relabel_look (env := X.env) h with q | q
  · exact Or.inr (Or.inr q)
  · exact Or.inr (Or.inl q.2)
theorem blk_vis (h : scope.names.lookup x = some .local) : Vis (X.blk s H scope (compEnvC scope cl C X.env) fp).env.scope x := by
  rcases relabel_look (env := X.env) h with q | q
  · exact Or.inl q
  · exact Or.inr (Or.inl q.2)
theorem blk_gl (h : scope.names.lookup x = some .globalImplicit) : Gl (X.blk s H scope (compEnvC scope cl C X.env) fp) x := by
  rcases relabel_look (env := X.env) h with q | q
  · exact q
  · cases q.1
theorem blk_loc (h : scope.names.lookup x = some .local) : (X.blk s H scope (compEnvC scope cl C X.env) fp).env.scope.names.lookup x = some .local := by
  rcases relabel_look (env := X.env) h with q | q
  · exact q
  · cases q.1
end
end GI
set_option Elab.async false
set_option linter.all false
set_option maxRecDepth 100000
set_option maxHeartbeats 2000000
namespace GI
open PySem PySem.Spec PyProof.Rows L2 SlX
section
variable {K : PySem.W.Frag} {mg : Str → Option Value} {S S' S0 : Sx} {σ : L2.St} {env : Env}
/-- slot i, and how it may change in place -/
theorem EnvRep.focus (h : EnvRep K mg S0 S σ env) {i : Nat} {s : Slot} (e : env[i]? = some (some s)) : ∃ v A, σ[i]? = some (some v) ∧ SlotRep K mg S v A s ∧ (∀ p ∈ A, S0.H p = none ∧ S.G p = none ∧ p ∉ S.r ∧ ∃ o, S.H p = some o) ∧
    ∀ (S2 : Sx) (s' : Slot), S2.G = S.G → S2.r = S.r → S2.me = S.me → SlotRep K mg S2 v A s' → (∀ p, p ∉ A → ∀ o, S.H p = some o → S2.H p = some o) → (∀ p ∈ A, ∃ o, S2.H p = some o) → EnvRep K mg S0 S2 σ (env.set i (some s')) := by
  obtain ⟨hl, A, h1, h2, h3⟩ := h
  obtain ⟨v, e1, q⟩ := h1 i _ e
  refine ⟨v, A i, e1, q, fun p hp => h2 i p hp, fun S2 s' hg hr hme P1 P2 P3 => ?_⟩
  have g : Gx S S2 := ⟨fun a o h => by rw [hg]; exact h, by rw [hr]; exact List.prefix_refl _, hme⟩
  refine ⟨by simp [hl], A, fun j t es => ?_, fun j a ha => ?_, h3⟩
  · by_cases z : j = i
    · subst z
      have hi := (List.getElem?_eq_some_iff.mp e).1
      rw [List.getElem?_set_self hi] at es
      cases es
      exact ⟨v, e1, P1⟩
    · rw [List.getElem?_set_ne (Ne.symm z)] at es
      obtain ⟨v', e2, q2⟩ := h1 j t es
      exact ⟨v', e2, SlotRep.agree q2 g fun p hp o e3 => P2 p (fun hm => z (h3 j i p hp hm)) o e3⟩
  · obtain ⟨a1, a2, a3, o, a4⟩ := h2 j a ha
    refine ⟨a1, by rw [hg]; exact a2, by rw [hr]; exact a3, ?_⟩
    by_cases z : a ∈ A i
    · exact P3 a z
    · exact ⟨o, P2 a z o a4⟩
theorem slt_of_rep {a C dx : Addr} {vs : List V} (ok : SOk K mg S) (h1 : S.G a = some (SlO a C dx (vs.map some))) (h2 : S.G dx = some (.xd [])) : Slt S.H a C dx (vs.map some) := .inr ⟨ok.sub _ _ h1, ok.sub _ _ h2⟩
end
def sAttr (tab : List (Str × Nat)) (fe : Ev) : Ev := fun env st => (fe env st).bind fun d st1 => match d with
  | .obj c ds => match tab.lookup c with
    | some i => Out.of ds[i]? st1
    | none => .bad
  | _ => .bad
/-- the slots f of the classes of tab -/
def AtF (K : PySem.W.Frag) (mg : Str → Option Value) (f : Str) (tab : List (Str × Nat)) : Prop := ∀ c i, tab.lookup c = some i → ∃ C p, mg c = some (.ref C) ∧ SCls K C ∧ Slot1 K C f p i
theorem AtF.one {K : PySem.W.Frag} {mg : Str → Option Value} {f c : Str} {i : Nat} {C p : Addr} (h : mg c = some (.ref C)) (h1 : SCls K C) (h2 : Slot1 K C f p i) : AtF K mg f [(c, i)] := fun c' i' e => by
  unfold List.lookup at e
  split at e
  · cases e
    rename_i z
    rw [beq_iff_eq.mp z]
    exact ⟨C, p, h, h1, h2⟩
  · cases e
section
variable {X : Cx} {W : WX} {e o : Expr} {f : Str} {pos pos' : Pos} {fe fv : Ev}
theorem d_attr {tab : List (Str × Nat)} (ht : AtF X.K X.mg f tab) (he : De X W e fe) (hb : attributeBase e f X.env (eval e X.env) = eval e X.env := by rfl) : De X W (.Attribute e f pos) (sAttr tab fe) := fun S0 => by
  refine peW (pe_sl (he S0) hb) fun σ H Q q => ?_
  obtain ⟨S, env, rfl, ok, er, q⟩ := q
  refine ⟨S, env, rfl, ok, er, q.imp fun d st q1 v S1 x1 ok1 e1 r1 => ?_⟩
  subst e1
  cases d with
  | obj c ds =>
    dsimp only at q1
    cases el : tab.lookup c with
    | none => rw [el] at q1; exact q1.elim
    | some i =>
      rw [el] at q1
      dsimp only at q1
      cases ei : ds[i]? with
      | none => rw [ei] at q1; exact q1.elim
      | some d =>
        rw [ei] at q1
        obtain ⟨C, p, h1, h2, h3⟩ := ht c i el
        cases r1 with
        | obj hm hG hd rl =>
          rename_i a C' dx vs
          rw [h1] at hm
          cases hm
          obtain ⟨w, ew, rw'⟩ := rl.get ei
          exact ⟨a, C, dx, p, vs.map some, i, w, rfl, slt_of_rep ok1 hG hd, h2, h3, by rw [List.getElem?_map, ew]; rfl, q1 w S1 x1 ok1 rfl rw'⟩
  | _ => exact (show False from q1).elim
def sSetA (c : Str) (i j : Nat) (f : Ev) : Exe := fun env st => match env[i]? with
  | some (some (.ob c' es)) => if c' = c ∧ j < es.length then (f env st).go env fun d st1 => .nx (env.set i (some (.ob c (es.set j (some d))))) st1 else .bad
  | _ => .bad
theorem putS_len {j : Nat} {v : V} {vs : List (Option V)} {n : Nat} (h : vs.length ≤ n) (hj : j < n) : (putS j v vs).length ≤ n := by
  unfold putS
  rw [List.length_set, List.length_append, List.length_replicate]
  omega
theorem ds_setA {i j : Nat} {x c : Str} {C p : Addr} {np : Pos} (hN : X.N[i]? = some x) (hv : Vis X.env.scope x) (hm : X.mg c = some (.ref C)) (hc : SCls X.K C) (hs1 : Slot1 X.K C f p j) (he : De X W e fv)
    (hd : (x == ("__debug__" : Str)) = false := by decide) (hcd : (x == ("__classdict__" : Str)) = false := by decide) (hs : swapsWith e (some (.Attribute (.Name x np) f pos')) pos.line X.env = pure false := by rfl) :
    Ds X W (.Assign [.Attribute (.Name x np) f pos'] e pos) (sSetA c i j fv) := fun S0 => by
  refine psW (ps_sl (pe_var hN hv hd hcd) (he S0) hs) fun D σ H q => ?_
  rw [tS_eq] at q
  obtain ⟨S, env, rfl, ok, er, x, q⟩ := q
  unfold sSetA at q
  cases eo : env[i]? with
  | none => rw [eo] at q; exact q.elim
  | some os =>
    rw [eo] at q
    cases os with
    | none => exact q.elim
    | some s =>
      cases s with
      | sh d => exact q.elim
      | ow ds => exact q.elim
      | ob c' es =>
        dsimp only at q
        by_cases hz : c' = c ∧ j < es.length
        · rw [if_pos hz] at q
          obtain ⟨rfl, hj⟩ := hz
          refine ⟨S, env, rfl, ok, er, outS.of ok er x q fun d st1 z y S1 x1 ok1 e1 r1 => ?_⟩
          have er1 := er.ext x1
          obtain ⟨v, A, ev, sr, fp, fin⟩ := er1.focus eo
          obtain ⟨a, C', dx, vs, rfl, rfl, hme, hm', sl, hne, hl, hr⟩ := sr
          rw [hm] at hm'
          cases hm'
          refine ⟨.ref a, ev, a, C, dx, p, vs, j, rfl, sl, hc, hs1, ?_⟩
          have fa := fp a (by simp)
          have fd := fp dx (by simp)
          have ok2 : SOk X.K X.mg { S1 with H := slH S1.H a C dx (putS j y vs) } := by
            have k1 := ok1.mut (p := dx) fd.2.1 fd.2.2.1 (.xd [])
            exact k1.mut (p := a) fa.2.1 fa.2.2.1 (SlO a C dx (putS j y vs))
          have x2 : Ext S0 { S1 with H := slH S1.H a C dx (putS j y vs) } := by
            have k1 := (Ext.trans ok x x1).mut (p := dx) fd.1 (.xd [])
            exact k1.mut (p := a) fa.1 (SlO a C dx (putS j y vs))
          refine z σ { S1 with H := slH S1.H a C dx (putS j y vs) } ok2 ⟨x2, ⟨x1.gle, x1.pre, x1.me⟩⟩ e1 (fin { S1 with H := slH S1.H a C dx (putS j y vs) } _ rfl rfl rfl ⟨a, C, dx, _, rfl, rfl, hme, hm, slH_slt hne, hne, ?_, fun k d' ek => ?_⟩ (fun p' hp' o e3 => ?_) (fun p' hp' => ?_))
          · rw [List.length_set]; exact putS_len hl hj
          · by_cases zk : k = j
            · subst zk
              rw [List.getElem?_set_self hj] at ek
              cases ek
              exact ⟨y, putS_get k y vs, r1⟩
            · rw [List.getElem?_set_ne (Ne.symm zk)] at ek
              obtain ⟨w, ew, rw'⟩ := hr k d' ek
              exact ⟨w, (putS_ne zk).mpr ew, rw'⟩
          · show slH S1.H a C dx _ p' = _
            have z1 : p' ≠ a := fun z => hp' (by simp [z])
            have z2 : p' ≠ dx := fun z => hp' (by simp [z])
            rw [slH_ne z1 z2]; exact e3
          · show ∃ o, slH S1.H a C dx _ p' = _
            rcases List.mem_cons.mp hp' with z | z
            · subst z; exact ⟨_, upd_same⟩
            · have z : p' = dx := by simpa using z
              subst z
              exact ⟨_, by unfold slH; rw [upd_ne hne, upd_same]⟩
        · rw [if_neg hz] at q; exact q.elim
end
section
variable (K : PySem.W.Frag) (mg : Str → Option Value)
/-- the promise of an __init__: x the new instance -/
def spI (c : Str) (n : Nat) (F : Fn) : Sp := fun vs H Q E => ∃ x ws, vs = .ref x :: ws ∧ ws.length = n ∧ ∃ S ds dx C, S.H x = none ∧ S.H dx = none ∧ dx ≠ x ∧ H = upd (upd S.H dx (.own x)) x (.ins C dx []) ∧ mg c = some (.ref C) ∧ SOk K mg S ∧ RepSL K mg S ws ds ∧
  outE K mg (fun c d _ H => E c d H) [] S (F ds S.st) fun d st => ∀ S', Ext S S' → SOk K mg S' → S'.st = st → RepS K mg S' (.ref x) d → Q .non S'.H
end
def envI (c : Str) (m n : Nat) (ds : List Dat) : Env := some (.ob c (List.replicate m none)) :: envOf n ds
def allS : List (Option Dat) → Option (List Dat)
  | [] => some []
  | none :: _ => none
  | some d :: r => (allS r).map (d :: ·)
def endI (c : Str) (env : Env) (st : Sto) : Out Dat := match (env[0]? : Option (Option Slot)) with
  | some (some (Slot.ob c' (some d :: r))) => if c' = c then (match allS r with
    | some ds => .ok (.obj c (d :: ds)) st
    | none => .bad) else .bad
  | _ => .bad
def fnI (c : Str) (m n : Nat) (body : Exe) : Fn := fun ds st => match body (envI c m n ds) st with
  | .nx env st' => endI c env st'
  | .ex c fs _ st' => .ex c fs st'
  | _ => .bad
theorem allS_get : ∀ {es : List (Option Dat)} {ds : List Dat}, allS es = some ds → ∀ (i : Nat) (d : Dat), ds[i]? = some d → es[i]? = some (some d)
  | [], _, h, i, d, e => by cases h; simp at e
  | none :: _, _, h, _, _, _ => by cases h
  | some x :: r, ds, h, i, d, e => by
    unfold allS at h
    cases h1 : allS r with
    | none => rw [h1] at h; cases h
    | some rs =>
      rw [h1] at h
      cases h
      cases i with
      | zero => simpa using e
      | succ i => simpa using allS_get h1 i d (by simpa using e)
theorem allS_len : ∀ {es : List (Option Dat)} {ds : List Dat}, allS es = some ds → ds.length = es.length
  | [], _, h => by cases h; rfl
  | none :: _, _, h => by cases h
  | some x :: r, ds, h => by
    unfold allS at h
    cases h1 : allS r with
    | none => rw [h1] at h; cases h
    | some rs =>
      rw [h1] at h
      cases h
      simp [allS_len h1]
section
variable {K : PySem.W.Frag} {mg : Str → Option Value}
theorem repL_of : ∀ {S : Sx} {vs : List (Option V)} {ds : List Dat}, vs.length ≤ ds.length → (∀ (i : Nat) (d : Dat), ds[i]? = some d → ∃ v, vs[i]? = some (some v) ∧ RepS K mg S v d) → ∃ ws, vs = ws.map some ∧ RepSL K mg S ws ds
  | S, [], [], _, _ => ⟨[], rfl, .nil⟩
  | S, [], d :: ds, _, h => by
    obtain ⟨v, e, _⟩ := h 0 d (by simp)
    simp at e
  | S, v :: vs, [], h, _ => by simp at h
  | S, v :: vs, d :: ds, hl, h => by
    obtain ⟨w, e, r⟩ := h 0 d (by simp)
    have e : v = some w := by simpa using e
    subst e
    obtain ⟨ws, e2, r2⟩ := repL_of (S := S) (vs := vs) (ds := ds) (by simpa using hl) fun i d e => by
      obtain ⟨v, e1, r1⟩ := h (i + 1) d (by simpa using e)
      exact ⟨v, by simpa using e1, r1⟩
    exact ⟨w :: ws, by rw [e2]; rfl, .cons r r2⟩
/-- the state behind the two new objects -/
def Sx.two (S : Sx) (x dx C : Addr) : Sx := { S with H := upd (upd S.H dx (.own x)) x (.ins C dx []), me := some x }
/-- x in the making -/
def Sx.mk1 (S : Sx) (x : Option Addr) : Sx := { S with me := x }
theorem SOk.mk1 {S : Sx} (ok : SOk K mg S) (x : Option Addr) : SOk K mg (S.mk1 x) where
  sub := ok.sub
  len := ok.len
  nd := ok.nd
  out := ok.out
  here := fun n a o h1 h2 => by
    have q := ok.here n a o h1 h2
    cases o with
    | dk kvs => exact q
theorem two_ok {S : Sx} {x dx C : Addr} (ok : SOk K mg S) (h1 : S.H x = none) (h2 : S.H dx = none) (hne : dx ≠ x) : SOk K mg (S.two x dx C) := by
  have a := ok.lay h2 (.own x)
  have b : (S.lay dx (.own x)).H x = none := by
    show upd S.H dx _ x = none
    rw [upd_ne (Ne.symm hne)]; exact h1
  have c := a.lay b (.ins C dx [])
  exact c.mk1 (some x)
theorem two_ext {S : Sx} {x dx C : Addr} (ok : SOk K mg S) (h1 : S.H x = none) (h2 : S.H dx = none) (hne : dx ≠ x) : Ext (S.mk1 (some x)) (S.two x dx C) := by
  have a := ok.lay h2 (.own x)
  have b : (S.lay dx (.own x)).H x = none := by
    show upd S.H dx _ x = none
    rw [upd_ne (Ne.symm hne)]; exact h1
  have y := Ext.trans a (Ext.lay ok h2 (.own x)) (Ext.lay a b (.ins C dx []))
  exact ⟨y.gle, y.pre, y.keep, y.nof, y.new, rfl⟩
theorem env_startI {S : Sx} {x dx C : Addr} {c y : Str} {m : Nat} {vs : List V} {ds : List Dat} {N : List Str} (ok : SOk K mg S) (h1 : S.H x = none) (h2 : S.H dx = none) (hne : dx ≠ x) (hm : mg c = some (.ref C)) (r : RepSL K mg S vs ds) :
    EnvRep K mg (S.mk1 (some x)) (S.two x dx C) (L2.start (y :: N) (.ref x :: vs)) (envI c m N.length ds) := by
  have x2 := two_ext (C := C) ok h1 h2 hne
  have ok2 := two_ok (C := C) ok h1 h2 hne
  have hl := r.length
  refine ⟨by simp [L2.start, envI, envOf, hl], updA (fun _ => []) 0 [x, dx], fun i s e => ?_, fun i p hp => ?_, fun i j p hi hj => ?_⟩
  · cases i with
    | zero =>
      unfold envI at e
      have e : s = .ob c (List.replicate m none) := by simpa using e.symm
      subst e
      refine ⟨.ref x, rfl, ?_⟩
      rw [updA_same]
      refine ⟨x, C, dx, [], rfl, rfl, rfl, hm, .inl ⟨upd_same, rfl⟩, hne, by simp, fun i d e => ?_⟩
      rw [List.getElem?_replicate] at e
      split at e <;> cases e
    | succ i =>
      have e : (envOf N.length ds)[i]? = some (some s) := e
      obtain ⟨d, hd, rfl⟩ := envOf_get e
      obtain ⟨v, hv, rv⟩ := r.get hd
      refine ⟨v, ?_, ?_⟩
      · show (L2.start (y :: N) (.ref x :: vs))[i + 1]? = _
        unfold L2.start
        have hi := (List.getElem?_eq_some_iff.mp hv).1
        rw [List.getElem?_append_left (by simpa using hi), List.getElem?_map, List.getElem?_cons_succ, hv]
        rfl
      · rw [updA_ne (by omega)]
        exact ⟨rfl, (show RepS K mg (S.mk1 (some x)) v d from rv).ext x2⟩
  · by_cases z : i = 0
    · subst z
      rw [updA_same] at hp
      rcases List.mem_cons.mp hp with q | q
      · subst q
        exact ⟨h1, ok.noG h1, ok.nor h1, _, upd_same⟩
      · have q : p = dx := by simpa using q
        subst q
        exact ⟨h2, ok.noG h2, ok.nor h2, .own x, by show upd (upd S.H p (.own x)) x _ p = _; rw [upd_ne hne, upd_same]⟩
    · rw [updA_ne z] at hp; cases hp
  · by_cases z : i = 0
    · by_cases z2 : j = 0
      · rw [z, z2]
      · rw [updA_ne z2] at hj; cases hj
    · rw [updA_ne z] at hi; cases hi
/-- the instance no longer changes -/
theorem end_ok {S S' : Sx} {σ : L2.St} {env : Env} {c : Str} {x : Addr} {d : Dat} {st : Sto} (ok : SOk K mg S') (er : EnvRep K mg (S.mk1 (some x)) S' σ env) (xx : Ext (S.mk1 (some x)) S') (h : endI c env S'.st = .ok d st) :
    ∃ S2 : Sx, S2.H = S'.H ∧ S2.st = st ∧ Ext S S2 ∧ SOk K mg S2 ∧ RepS K mg S2 (.ref x) d := by
  unfold endI at h
  split at h
  · rename_i c' d0 r e
    by_cases hz : c' = c
    · rw [if_pos hz] at h
      subst hz
      split at h
      · rename_i ds ea
        cases h
        obtain ⟨v, A, ev, sr, fp, _⟩ := er.focus e
        obtain ⟨a, C, dx, vs, rfl, rfl, hme, hm, sl, hne, hl, hr⟩ := sr
        have eme := xx.me
        rw [hme] at eme
        have eme : a = x := Option.some.inj eme
        subst eme
        have ea' : allS (some d0 :: r) = some (d0 :: ds) := by unfold allS; rw [ea]; rfl
        obtain ⟨ws, ew, rws⟩ := repL_of (K := K) (mg := mg) (S := S') (vs := vs) (ds := d0 :: ds) (by rw [allS_len ea']; exact hl) fun i d e => hr i d (allS_get ea' i d e)
        subst ew
        have hs2 : S'.H a = some (SlO a C dx (ws.map some)) ∧ S'.H dx = some (.xd []) := by
          rcases sl with ⟨_, z⟩ | z
          · cases rws with
            | cons _ _ => cases z
          · exact z
        have fa := fp a (by simp)
        have fd := fp dx (by simp)
        have i1 := ok.ice hs2.1 fa.2.2.1
        have g1 : (S'.ice a (SlO a C dx (ws.map some))).G dx = none := by
          show upd S'.G a _ dx = none
          rw [upd_ne hne]; exact fd.2.1
        have i2 := i1.ice (p := dx) (o := .xd []) hs2.2 fd.2.2.1
        have y1 := Ext.ice (o := SlO a C dx (ws.map some)) xx ok fa.1 fa.2.1
        have y2 := Ext.ice (o := .xd []) y1 i1 fd.1 g1
        refine ⟨(Sx.ice (Sx.ice S' a _) dx _).mk1 S.me, rfl, rfl, ⟨y2.gle, y2.pre, y2.keep, y2.nof, y2.new, rfl⟩, i2.mk1 _, .obj hm ?_ upd_same (rws.mono (fun b u eb => ?_) (List.prefix_refl _))⟩
        · show upd (upd S'.G a _) dx _ a = _
          rw [upd_ne (Ne.symm hne), upd_same]
        · exact upd_mono g1 b u (upd_mono fa.2.1 b u eb)
      · cases h
    · rw [if_neg hz] at h; cases h
  · cases h
theorem init_ok {P : Program} {w : World} {base : Heap} {x y qual c : Str} {params : Arguments} {body : List Stmt} {scope : Scope} {dvs : List V} {kws : List (Str × V)} {f : Addr} {fd : FuncData} {N ps : List Str} {m k : Nat} {bd : Exe} (Fu : FunD K x qual params body scope dvs kws f fd) (Sc : FnScope (y :: N) (y :: ps) scope)
    (hb : ∀ (cdv : Value) (A : Around) (outer : List PySem.Env) (s : Shared) (H : Hp) (E : XK), A.guards = some [] → Room k (A.deeper (envOfC qual scope s.heap.objs.size f cdv)) →
      Takes (cxOf (L2.CX P w) P w K mg base (y :: N) qual scope f cdv A outer s H E) (fun c d _ H => E c d H) →
      PassesOwn (model P w) (cxOf (L2.CX P w) P w K mg base (y :: N) qual scope f cdv A outer s H E).A (cxOf (L2.CX P w) P w K mg base (y :: N) qual scope f cdv A outer s H E).env (cxOf (L2.CX P w) P w K mg base (y :: N) qual scope f cdv A outer s H E).xe →
      Dss (cxOf (L2.CX P w) P w K mg base (y :: N) qual scope f cdv A outer s H E) (fun c d _ H => E c d H) body bd) :
    FnG P w K mg base (L2.CX P w) (k + 1) f fd (y :: ps) (spI K mg c ps.length (fnI c m N.length bd)) := by
  obtain ⟨oc, od, dV, kV, doc, pm, an, cdv, ct, osl, rfl, lk, hcd, _, _⟩ := Fu.ex
  refine fnG_of lk hcd Sc (fun vs H Q E h => by obtain ⟨x, ws, rfl, hl, _⟩ := h; simp [hl]) fun A outer s H vs Q E hG hr h => ?_
  obtain ⟨x, ws, rfl, hl, S, ds, dx, C, h1, h2, hne, rfl, hm, ok, r, q⟩ := h
  refine ⟨_, hb cdv A outer s _ E hG hr (takes_of rfl rfl rfl rfl) (passes_of rfl) (S.mk1 (some x)), ?_⟩
  refine ⟨S.two x dx C, envI c m N.length ds, rfl, two_ok ok h1 h2 hne, env_startI ok h1 h2 hne hm r, two_ext ok h1 h2 hne, ?_⟩
  unfold fnI at q
  show outS K mg (S.mk1 (some x)) (S.two x dx C) _ _ (bd (envI c m N.length ds) S.st)
  cases e : bd (envI c m N.length ds) S.st with
  | nx env st' =>
    rw [e] at q
    intro σ' S' ok' x' es er
    dsimp only at q
    cases ee : endI c env st' with
    | ok d st2 =>
      rw [ee] at q
      subst es
      obtain ⟨S2, e1, e2, x2, ok2, r2⟩ := end_ok ok' er x'.x ee
      have := q S2 x2 ok2 e2 r2
      rw [e1] at this
      exact this
    | ex c fs st2 =>
      exfalso
      unfold endI at ee
      split at ee
      · split at ee
        · split at ee <;> cases ee
        · cases ee
      · cases ee
    | bad => rw [ee] at q; exact q.elim
  | rt d st' => rw [e] at q; exact q.elim
  | ex c fs env st' =>
    rw [e] at q
    intro σ' S' cls dx' ok' x' es er r
    have y := x'.x
    exact q (S'.mk1 S.me) cls dx' ⟨y.gle, y.pre, y.keep, y.nof, y.new, rfl⟩ (ok'.mk1 _) es r
  | bk env st' => rw [e] at q; exact q.elim
  | ct env st' => rw [e] at q; exact q.elim
  | bad => rw [e] at q; exact q
end
end GI
set_option Elab.async false
set_option linter.all false
set_option maxRecDepth 100000
set_option maxHeartbeats 2000000
namespace GI
open PySem PySem.Spec PyProof.Rows L2 SlX
def Dks (X : Cx) (W : WX) (kws : List Keyword) (f : EvL) : Prop := ∀ S0, PK X kws (tEs X.K X.mg S0 W f)
section
variable {X : Cx} {W : WX} {e o : Expr} {es : List Expr} {kws : List Keyword} {fa : Ev} {fl fk : EvL} {nm : Option Str} {p kpos pos apos : Pos} {F : Fn} {n k : Nat} {f g C : Addr} {fd : FuncData} {ps ks : List Str} {x c m : Str}
theorem pkW {t t' : TA} (h : PK X kws t) (i : ∀ σ H Q, t' σ H Q → t σ H Q) : PK X kws t' := ⟨fun pos pins s σ H Q I q => h.run pos pins s σ H Q I (i σ H Q q)⟩
theorem dk_nil : Dks X W [] sNil := fun S0 => by
  refine pkW pk_nil fun σ H Q q => ?_
  obtain ⟨S, env, rfl, ok, er, q⟩ := q
  exact q [] S (Ext.refl S) ok rfl .nil
theorem dk_cons (ha : De X W e fa) (hr : Dks X W kws fl) : Dks X W (⟨nm, e, kpos⟩ :: kws) (sCons fa fl) := fun S0 => by
  refine pkW (pk_cons (ha S0) (hr S0)) fun σ H Q q => ?_
  obtain ⟨S, env, rfl, ok, er, q⟩ := q
  refine ⟨S, env, rfl, ok, er, q.imp fun dx st1 q1 x S1 x1 ok1 e1 r1 => ?_⟩
  subst e1
  refine ⟨S1, env, rfl, ok1, er.ext x1, outE.imp (q1.later ok1 x1 fun d st z v S' xx ok' => z v S' (Ext.trans ok1 x1 xx) ok') fun ds st2 q2 vs S2 x2 ok2 e2 r2 => ?_⟩
  exact q2 (x :: vs) S2 x2 ok2 e2 (.cons (r1.ext x2) r2)
def tMakeG (C : Addr) (n m : Nat) (sp : Sp) (gV : List V → List V → List V) (E : L2.St → XK) (t tk : TA) : TE := fun σ H Q => t σ H fun vs H1 => tk σ H1 fun zs H2 => vs.length = n ∧ zs.length = m ∧
  ∀ x dx, H2 x = none → H2 dx = none → dx ≠ x → sp (gV (.ref x :: vs) zs) (upd (upd H2 dx (.own x)) x (.ins C dx [])) (fun v H3 => v = .non ∧ Q (.ref x) H3) (E σ)
theorem run_makeG {CX : CXT} {sp : Sp} {E : L2.St → XK} {gs : List Value → List Value → List Value} {gV : List V → List V → List V} {pins : List (Addr × Obj)} {σ : L2.St} {H : Hp} {s : Shared} {Q : VK} {us ws : List Value} {vs zs : List V} (M : Mk X.K C f) (G : FnG X.prog X.w X.K X.mg X.base CX k f fd ps sp) (hG : X.A.guards = some []) (hr : Room (k + 1) X.A) (hb : KBn X.K fd ps (n + 1) ks gs gV)
    (hx : PassesAt CX X σ (E σ)) (I : Inv X pins σ H s) (r : Vals vs us) (rz : Vals zs ws) (l1 : vs.length = n) (l2 : zs.length = ks.length)
    (h : ∀ x dx, H x = none → H dx = none → dx ≠ x → sp (gV (.ref x :: vs) zs) (upd (upd H dx (.own x)) x (.ins C dx [])) (fun v H2 => v = .non ∧ Q (.ref x) H2) (E σ)) :
    wpAny (model X.prog X.w) X.A (call (.ref C) us (ks.zip ws)) (EP X pins σ Q) X.xe s := by
  have hq := h (s.heap.objs.size + 1) s.heap.objs.size (I.hok.fresh (Nat.le_succ _)) (I.hok.fresh (Nat.le_refl _)) (Nat.ne_of_lt (Nat.lt_succ_self _))
  have I2 := Inv.made (C := C) I
  have r1 : Vals (V.ref (s.heap.objs.size + 1) :: vs) (Value.ref (s.heap.objs.size + 1) :: us) := .cons rfl r
  have r2 := hb.rel r1 rz
  have e1 : (Value.ref (s.heap.objs.size + 1) :: us).length = n + 1 := r1.length.symm.trans (congrArg Nat.succ l1)
  have e2 : ws.length = ks.length := rz.length.symm.trans l2
  have hG' : (X.A.under (.builtin "type.__call__" ⟨.ref C :: us, ks.zip ws⟩)).guards = some [] := hG
  refine wpAny_call (make_map (f := f) I.kIn M.makes M.init (beq_iff_eq.mp M.fn) (codeAny_mono (G.run _ X.stack _ _ ⟨Value.ref (s.heap.objs.size + 1) :: us, ks.zip ws⟩ (gs (Value.ref (s.heap.objs.size + 1) :: us) ws) _ _ (E σ) hG' (hr.make C us (ks.zip ws))
    (I2.env0.make C us (ks.zip ws)) (hb.to _ (Value.ref (s.heap.objs.size + 1) :: us) ws I2.kIn e1 e2) r2 hq) fun r s' hq' => ?_))
  cases r with
  | error e => exact hx pins _ _ e s' I2 hq'
  | ok fl =>
    cases fl with
    | ret u =>
      obtain ⟨v, H', I3, rv, ev, q3⟩ := I2.after hq'
      subst ev
      exact ⟨rv, ⟨V.ref (s.heap.objs.size + 1), H', I3, rfl, q3⟩⟩
    | next => exact False.elim hq'
    | brk => exact False.elim hq'
    | cont => exact False.elim hq'
theorem pe_makeG {CX : CXT} {sp : Sp} {E : L2.St → XK} {gs : List Value → List Value → List Value} {gV : List V → List V → List V} {t tk : TA} (M : Mk X.K C f) (G : FnG X.prog X.w X.K X.mg X.base CX k f fd ps sp) (hG : X.A.guards = some []) (hr : Room (k + 1) X.A) (hg : Gl X x) (hm : X.mg x = some (.ref C)) (hb : KBn X.K fd ps (n + 1) ks gs gV) (hx : ∀ σ, PassesAt CX X σ (E σ))
    (ha : PA X (e :: es) t) (hkw : PK X kws tk) (hall : (backToKw pos (keywordEach kws X.env)).all (·.1.isSome) = true := by rfl) (hks : (backToKw pos (keywordEach kws X.env)).filterMap (·.1) = ks := by rfl)
    (hdb : (x == ("__debug__" : Str)) = false := by decide) (he : starEach (e :: es) X.env = (false, eval e X.env) :: starEach es X.env := by rfl)
    (hpl : ((backTo pos (starEach (e :: es) X.env)).any (·.1) || (backToKw pos (keywordEach kws X.env)).any (·.1.isNone)) = false := by rfl) :
    PE X (.Call (.Name x p) (e :: es) kws pos) (tMakeG C n ks.length sp gV E t tk) := by
  refine ⟨fun pins s σ H Q I h => ?_⟩
  refine wpAny_Call_Name_kw (ld_glob I hg hm ?_ hdb)
  refine PySem.W.callWith_KW (h₀ := X.base) I.ok.mod.kin M.kp hall (thn (ha.run pos pins s σ H _ I h) fun us s1 ⟨vs, H1, I1, r, q⟩ => ?_) hpl he
  refine thn (hkw.run pos pins s1 σ H1 _ I1 q) fun ws s2 ⟨zs, H2, I2, rz, l1, l2, q2⟩ => ⟨I2.kIn, ?_⟩
  rw [hks]
  exact run_makeG M G hG hr hb (hx σ) I2 r rz l1 l2 q2
/-- how the values lie among the parameters, on data -/
structure GD (K : PySem.W.Frag) (mg : Str → Option Value) (n m np : Nat) (gV : List V → List V → List V) (gD : List Dat → List Dat → List Dat) : Prop where
  to : ∀ (S : Sx) (x : Addr) (vs zs : List V) (ds es : List Dat), RepSL K mg S vs ds → RepSL K mg S zs es → vs.length = n → zs.length = m → ∃ ws, gV (.ref x :: vs) zs = .ref x :: ws ∧ ws.length = np ∧ RepSL K mg S ws (gD ds es)
def sMake (n m : Nat) (F : Fn) (gD : List Dat → List Dat → List Dat) (fl fk : EvL) : Ev := fun env st => (fl env st).bind fun ds st1 => (fk env st1).bind fun es st2 => if ds.length = n ∧ es.length = m then F (gD ds es) st2 else .bad
theorem d_make {np : Nat} {gs : List Value → List Value → List Value} {gV : List V → List V → List V} {gD : List Dat → List Dat → List Dat} (M : Mk X.K C f) (G : FnG X.prog X.w X.K X.mg X.base (L2.CX X.prog X.w) k f fd ps (spI X.K X.mg x np F)) (hG : X.A.guards = some []) (hr : Room (k + 1) X.A) (hg : Gl X x) (hm : X.mg x = some (.ref C)) (hb : KBn X.K fd ps (n + 1) ks gs gV) (hD : GD X.K X.mg n ks.length np gV gD) (tk : Takes X W)
    (ha : Des X W (e :: es) fl) (hkw : Dks X W kws fk) (hall : (backToKw pos (keywordEach kws X.env)).all (·.1.isSome) = true := by rfl) (hks : (backToKw pos (keywordEach kws X.env)).filterMap (·.1) = ks := by rfl)
    (hdb : (x == ("__debug__" : Str)) = false := by decide) (he : starEach (e :: es) X.env = (false, eval e X.env) :: starEach es X.env := by rfl)
    (hpl : ((backTo pos (starEach (e :: es) X.env)).any (·.1) || (backToKw pos (keywordEach kws X.env)).any (·.1.isNone)) = false := by rfl) :
    De X W (.Call (.Name x p) (e :: es) kws pos) (sMake n ks.length F gD fl fk) := fun S0 => by
  refine peW (pe_makeG (E := fun σ c d H => W c d σ H) M G hG hr hg hm hb (fun σ => passAt tk σ) (ha S0) (hkw S0) hall hks hdb he hpl) fun σ H Q q => ?_
  obtain ⟨S, env, rfl, ok, er, q⟩ := q
  refine ⟨S, env, rfl, ok, er, q.imp fun ds st q vs S1 x1 ok1 e1 r1 => ?_⟩
  subst e1
  refine ⟨S1, env, rfl, ok1, er.ext x1, outE.imp (q.later ok1 x1 fun d st z v S' xx ok' => z v S' (Ext.trans ok1 x1 xx) ok') fun es st2 q2 zs S2 x2 ok2 e2 r2 => ?_⟩
  subst e2
  by_cases hl : ds.length = n ∧ es.length = ks.length
  · rw [if_pos hl] at q2
    have l1 : vs.length = n := by rw [r1.length]; exact hl.1
    have l2 : zs.length = ks.length := by rw [r2.length]; exact hl.2
    refine ⟨l1, l2, fun xa dx h1 h2 hne => ?_⟩
    obtain ⟨ws, ew, lw, rw'⟩ := hD.to S2 xa vs zs ds es (r1.ext x2) r2 l1 l2
    rw [ew]
    refine ⟨xa, ws, rfl, lw, S2, gD ds es, dx, C, h1, h2, hne, rfl, hm, ok2, rw', ?_⟩
    cases ef : F (gD ds es) S2.st with
    | ok d st3 => rw [ef] at q2; exact fun S' xx ok' es' r => ⟨rfl, q2 (.ref xa) S' (Ext.trans ok2 x2 xx) ok' es' r⟩
    | ex c fs st3 => rw [ef] at q2; exact fun S' cls dx xx ok' es' r => q2 S' cls dx (Ext.trans ok2 x2 xx) ok' es' r
    | bad => rw [ef] at q2; exact q2
  · rw [if_neg hl] at q2
    exact q2.elim
def sMeth (c : Str) (n : Nat) (F : Fn) (fo : Ev) (fl : EvL) : Ev := fun env st => (fo env st).bind fun d st1 => match d with
  | .obj c' ds => if c' = c then (fl env st1).bind fun es st2 => if es.length + 1 = n then F (.obj c' ds :: es) st2 else .bad else .bad
  | _ => .bad
def tMethG (C : Addr) (sp : Sp) (E : L2.St → XK) (ta : TE) (t : TA) : TE := fun σ H Q => ta σ H fun x H1 => ∃ a dx vs, x = .ref a ∧ Slt H1 a C dx vs ∧ t σ H1 fun ws H2 => sp (x :: ws) H2 Q (E σ)
theorem pe_methG {CX : CXT} {sp : Sp} {E : L2.St → XK} {pl : Sem Bool} {ta : TE} {t : TA} (he : PE X o ta) (c : SCls X.K C) (hm : Meth X.K C m g) (G : FnG X.prog X.w X.K X.mg X.base CX k g fd ps sp) (hG : X.A.guards = some []) (hr : Room k X.A) (hb : Binds X.K fd ps []) (hx : ∀ σ, PassesAt CX X σ (E σ)) (ha : PA X (e :: es) t)
    (hst : starEach (e :: es) X.env = (false, eval e X.env) :: starEach es X.env := by rfl) (hpl : (backTo pos (starEach es X.env)).any (·.1) = false := by rfl)
    (ht : eval (.Call (.Attribute o m apos) (e :: es) [] pos) X.env = (do
      let ov ← eval o X.env
      standAt apos.atName
      let (f, first) ← holding [ov] (getMethod ov m pl)
      callWith pos f first (backTo pos (starEach (e :: es) X.env)) (backToKw pos (keywordEach [] X.env))) := by rfl) :
    PE X (.Call (.Attribute o m apos) (e :: es) [] pos) (tMethG C sp E ta t) := by
  refine ⟨fun pins s σ H Q I h => ?_⟩
  refine PySem.W.methodCall_KW (pl := pl) (thn (he.run pins s σ H _ I h) fun u s1 ⟨x, H1, I1, rx, a, dx, vs, ex, hsl, q⟩ => ?_) ht
  subst ex
  obtain rfl : u = Value.ref a := rx
  refine getmethsl_ok I1 hsl c hm ?_
  refine PySem.W.callWith_K (first := [.ref a]) (h₀ := X.base) I.ok.mod.kin hm.kp (thn (ha.run pos pins s1 σ H1 _ I1 q) fun us s2 ⟨ws, H2, I2, r, q2⟩ => ⟨I2.kIn, ?_⟩) hst hpl
  exact run_G G hG hr hb (hx σ) I2 (us := .ref a :: us) (vs := .ref a :: ws) (.cons rfl r) q2
theorem pe_methG0 {CX : CXT} {sp : Sp} {E : L2.St → XK} {pl : Sem Bool} {ta : TE} (he : PE X o ta) (c : SCls X.K C) (hm : Meth X.K C m g) (G : FnG X.prog X.w X.K X.mg X.base CX k g fd ps sp) (hG : X.A.guards = some []) (hr : Room k X.A) (hb : Binds X.K fd ps []) (hx : ∀ σ, PassesAt CX X σ (E σ))
    (ht : eval (.Call (.Attribute o m apos) [] [] pos) X.env = (do
      let ov ← eval o X.env
      standAt apos.atName
      let (f, first) ← holding [ov] (getMethod ov m pl)
      callWith pos f first (backTo pos (starEach [] X.env)) (backToKw pos (keywordEach [] X.env))) := by rfl) :
    PE X (.Call (.Attribute o m apos) [] [] pos) (tMethG C sp E ta tNil) := by
  refine ⟨fun pins s σ H Q I h => ?_⟩
  refine PySem.W.methodCall_KW (pl := pl) (thn (he.run pins s σ H _ I h) fun u s1 ⟨x, H1, I1, rx, a, dx, vs, ex, hsl, q⟩ => ?_) ht
  subst ex
  obtain rfl : u = Value.ref a := rx
  refine getmethsl_ok I1 hsl c hm ?_
  exact PySem.W.callWith_K0 (first := [.ref a]) I1.kIn hm.kp (run_G G hG hr hb (hx σ) I1 (us := [.ref a]) (vs := [.ref a]) (.cons rfl .nil) q)
theorem tE_meth {S0 : Sx} {fo : Ev} {σ : L2.St} {H : Hp} {Q : VK} (hm : X.mg c = some (.ref C)) (h : tE X.K X.mg S0 W (sMeth c n F fo fl) σ H Q) :
    tMethG C (spF X.K X.mg n F) (fun σ c d H => W c d σ H) (tE X.K X.mg S0 W fo) (tEs X.K X.mg S0 W fl) σ H Q := by
  obtain ⟨S, env, rfl, ok, er, q⟩ := h
  refine ⟨S, env, rfl, ok, er, q.imp fun d st q1 v S1 x1 ok1 e1 r1 => ?_⟩
  subst e1
  cases d with
  | obj c' ds =>
    dsimp only at q1
    by_cases hz : c' = c
    · rw [if_pos hz] at q1
      subst hz
      have r1' := r1
      cases r1 with
      | obj hm' hG hd rl =>
        rename_i a C' dx vs
        rw [hm] at hm'
        cases hm'
        refine ⟨a, dx, vs.map some, rfl, slt_of_rep ok1 hG hd, S1, env, rfl, ok1, er.ext x1, outE.imp (q1.later ok1 x1 fun d st z v S' xx ok' => z v S' (Ext.trans ok1 x1 xx) ok') fun es st2 q2 ws S2 x2 ok2 e2 r2 => ?_⟩
        subst e2
        by_cases hl : es.length + 1 = n
        · rw [if_pos hl] at q2
          refine ⟨by simp [r2.length, hl], S2, .obj c' ds :: es, rfl, ok2, .cons (r1'.ext x2) r2, ?_⟩
          cases ef : F (.obj c' ds :: es) S2.st with
          | ok d st3 => rw [ef] at q2; exact fun v S' xx ok' es' r => q2 v S' (Ext.trans ok2 x2 xx) ok' es' r
          | ex c fs st3 => rw [ef] at q2; exact fun S' cls dx xx ok' es' r => q2 S' cls dx (Ext.trans ok2 x2 xx) ok' es' r
          | bad => rw [ef] at q2; exact q2
        · rw [if_neg hl] at q2; exact q2.elim
    · rw [if_neg hz] at q1; exact q1.elim
  | _ => exact (show False from q1).elim
theorem d_meth {fo : Ev} {pl : Sem Bool} (hmg : X.mg c = some (.ref C)) (hc : SCls X.K C) (hm : Meth X.K C m g) (G : FnG X.prog X.w X.K X.mg X.base (L2.CX X.prog X.w) k g fd ps (spF X.K X.mg n F)) (hG : X.A.guards = some []) (hr : Room k X.A) (hb : Binds X.K fd ps []) (tk : Takes X W) (he : De X W o fo) (ha : Des X W (e :: es) fl)
    (hst : starEach (e :: es) X.env = (false, eval e X.env) :: starEach es X.env := by rfl) (hpl : (backTo pos (starEach es X.env)).any (·.1) = false := by rfl)
    (ht : eval (.Call (.Attribute o m apos) (e :: es) [] pos) X.env = (do
      let ov ← eval o X.env
      standAt apos.atName
      let (f, first) ← holding [ov] (getMethod ov m pl)
      callWith pos f first (backTo pos (starEach (e :: es) X.env)) (backToKw pos (keywordEach [] X.env))) := by rfl) :
    De X W (.Call (.Attribute o m apos) (e :: es) [] pos) (sMeth c n F fo fl) := fun S0 =>
  peW (pe_methG (E := fun σ c d H => W c d σ H) (he S0) hc hm G hG hr hb (fun σ => passAt tk σ) (ha S0) hst hpl ht) fun σ H Q q => tE_meth hmg q
theorem d_meth0 {fo : Ev} {pl : Sem Bool} (hmg : X.mg c = some (.ref C)) (hc : SCls X.K C) (hm : Meth X.K C m g) (G : FnG X.prog X.w X.K X.mg X.base (L2.CX X.prog X.w) k g fd ps (spF X.K X.mg n F)) (hG : X.A.guards = some []) (hr : Room k X.A) (hb : Binds X.K fd ps []) (tk : Takes X W) (he : De X W o fo)
    (ht : eval (.Call (.Attribute o m apos) [] [] pos) X.env = (do
      let ov ← eval o X.env
      standAt apos.atName
      let (f, first) ← holding [ov] (getMethod ov m pl)
      callWith pos f first (backTo pos (starEach [] X.env)) (backToKw pos (keywordEach [] X.env))) := by rfl) :
    De X W (.Call (.Attribute o m apos) [] [] pos) (sMeth c n F fo sNil) := fun S0 => by
  refine peW (pe_methG0 (E := fun σ c d H => W c d σ H) (he S0) hc hm G hG hr hb (fun σ => passAt tk σ) ht) fun σ H Q q => ?_
  obtain ⟨S, env, rfl, ok, er, q⟩ := tE_meth (fl := sNil) hmg q
  refine ⟨S, env, rfl, ok, er, q.later ok (Ext.refl S) fun d st q v S1 x1 ok1 e1 r1 => ?_⟩
  obtain ⟨a, dx, vs, ex, hs, S2, env2, e2, ok2, er2, q⟩ := q v S1 x1 ok1 e1 r1
  refine ⟨a, dx, vs, ex, hs, ?_⟩
  have := q [] S2 (Ext.refl S2) ok2 rfl .nil
  rw [e2] at this
  exact this
end
end GI
set_option Elab.async false
set_option linter.all false
set_option maxRecDepth 100000
set_option maxHeartbeats 2000000
namespace GI
open PySem PySem.Spec PyProof.Rows L2 SlX
section
variable {X : Cx} {W : WX} {pins : List (Addr × Obj)} {σ : L2.St} {H : Hp} {s : Shared} {F : Fn} {n k : Nat} {g C : Addr} {fd : FuncData} {ps : List Str}
/-- an own def runs below the running body; it lets nothing out -/
theorem runO {A : Around} {us : List Value} {vs : List V} {S : Sx} {ds : List Dat} {d : Dat} {st' : Sto} {Q : VK} (G : FnG X.prog X.w X.K X.mg X.base (L2.CX X.prog X.w) k g fd ps (spF X.K X.mg n F)) (hb : Binds X.K fd ps []) (hGA : A.guards = some []) (hr : Room k A)
    (e0 : Env0 X.prog X.w X.K X.mg X.base A X.stack s S.H) (I : Inv X pins σ S.H s) (r : Vals vs us) (ok : SOk X.K X.mg S) (rep : RepSL X.K X.mg S vs ds) (hn : ds.length = n) (eF : F ds S.st = .ok d st')
    (hq : ∀ v S', Ext S S' → SOk X.K X.mg S' → S'.st = st' → RepS X.K X.mg S' v d → Q v S'.H) :
    codeAny (model X.prog X.w) A (.call (.ref g) ⟨us, []⟩) (fun r s' => match r with | .ok (.ret v) => EP X pins σ Q v s' | .ok _ => False | .error e => X.xe e s') s := by
  have h : spF X.K X.mg n F vs S.H Q (fun _ _ _ => False) := ⟨by rw [rep.length]; exact hn, S, ds, rfl, ok, rep, by rw [eF]; exact hq⟩
  have hl : us.length = ps.length := by rw [← r.length]; exact G.len _ _ _ _ h
  have b := hb s us I.kIn (by rw [List.append_nil]; exact hl)
  rw [List.append_nil] at b
  refine codeAny_mono (G.run A X.stack s S.H ⟨us, []⟩ us vs Q _ hGA hr e0 b r h) fun r s' hq => ?_
  cases r with
  | error e => exact passAt (W := fun _ _ _ _ => False) takes0 σ pins S.H s e s' I hq
  | ok fl =>
    cases fl with
    | ret u => exact I.after hq
    | next => exact False.elim hq
    | brk => exact False.elim hq
    | cont => exact False.elim hq
/-- what an own def gives at these values -/
def rO (K : PySem.W.Frag) (mg : Str → Option Value) (c : Str) (n : Nat) (F : Fn) (ok : Dat → Prop) (xs : List V) (H : Hp) (Q : VK) : Prop := ∃ (S : Sx) (es ds : List Dat) (d : Dat) (st : Sto), S.H = H ∧ SOk K mg S ∧ RepSL K mg S xs (.obj c es :: ds) ∧ ds.length + 1 = n ∧ F (.obj c es :: ds) S.st = .ok d st ∧ ok d ∧
  ∀ v S', Ext S S' → SOk K mg S' → S'.st = st → RepS K mg S' v d → Q v S'.H
theorem rO.inst {K : PySem.W.Frag} {mg : Str → Option Value} {S : Sx} {x : V} {c : Str} {es : List Dat} (ok : SOk K mg S) (hm : mg c = some (.ref C)) (h : RepS K mg S x (.obj c es)) : ∃ a dx vs, x = .ref a ∧ Slt S.H a C dx vs := by
  cases h with
  | obj hm' hG hd _ =>
    rw [hm] at hm'
    cases hm'
    exact ⟨_, _, _, rfl, slt_of_rep ok hG hd⟩
def lenOk (d : Dat) : Prop := ∃ m : Int, d = .int m ∧ 0 ≤ m ∧ m < 2 ^ 63
theorem call_lenO {c : Str} (hm : X.mg c = some (.ref C)) (hs : PySem.W.findIn X.K (.ref C) "__len__" = some (some (.ref g))) (hf : PySem.W.isFn X.K (.ref g) = true) (G : FnG X.prog X.w X.K X.mg X.base (L2.CX X.prog X.w) k g fd ps (spF X.K X.mg n F)) (hb : Binds X.K fd ps []) (hG : X.A.guards = some []) (hr : Room (k + 1) X.A) :
    CallR X (.builtin "len") (fun xs H Q => rLen X.K xs H Q ∨ xs.length = 1 ∧ rO X.K X.mg c n F lenOk xs H Q) := by
  intro pins s σ H xs us Q I r h
  rcases h with h | ⟨hl, S, es, ds, d, st, rfl, ok, rep, hn, eF, ⟨m, rfl, h0, h1⟩, q⟩
  · exact call_len pins s σ H xs us Q I r h
  · cases rep with
    | cons r0 rr =>
      have hds : ds = [] := by
        have := rr.length
        simp at hl
        cases ds with
        | nil => rfl
        | cons _ _ => rw [hl] at this; simp at this
      subst hds
      cases rr
      obtain ⟨a, dx, vs, rfl, hsl⟩ := rO.inst ok hm r0
      obtain ⟨u, rfl, ru⟩ := r.one
      cases (show u = Value.ref a from ru)
      obtain ⟨sl, od, _, J, _⟩ := slt_inst I hsl
      obtain ⟨mm, hF⟩ := I.fr
      refine PySem.W.len_K hF I.ok.mod.kin J hs hf (wpAny_mono (wpAny_call (runO (A := X.A.in1) (us := [.ref a]) (vs := [.ref a]) (Q := fun v H' => v = .int m ∧ Q v H') G hb (show X.A.in1.guards = some [] from hG) hr.in1 I.env0.in1 I (.cons rfl .nil) ok (.cons r0 .nil) hn eF (fun v S' xx ok' e' r' => by
        have r2 := r'
        cases r'
        exact ⟨rfl, q _ S' xx ok' e' r2⟩))) (fun w s' z => ?_) fun _ _ x => x)
      obtain ⟨z', H', I', rz, rfl, qz⟩ := z
      obtain ⟨tt, e⟩ := (show ∃ t, w = Value.int m t from rz)
      cases e
      exact ⟨⟨h0, h1⟩, .int m, H', I'.tok _, ⟨_, rfl⟩, qz⟩
def sLenO (c : Str) (n : Nat) (F : Fn) (fe : Ev) : Ev := fun env st => (fe env st).bind fun d st1 => match d with
  | .obj c' ds => if c' = c ∧ n = 1 then (match F [.obj c' ds] st1 with
    | .ok (.int m) st2 => if 0 ≤ m ∧ m < 2 ^ 63 then .ok (.int m) st2 else .bad
    | _ => .bad) else .bad
  | d => Out.of (dLen [d]) st1
theorem d_lenO {c : Str} {e : Expr} {fe : Ev} {p pos : Pos} (hm : X.mg c = some (.ref C)) (hs : PySem.W.findIn X.K (.ref C) "__len__" = some (some (.ref g))) (hf : PySem.W.isFn X.K (.ref g) = true) (G : FnG X.prog X.w X.K X.mg X.base (L2.CX X.prog X.w) k g fd ps (spF X.K X.mg n F)) (hb : Binds X.K fd ps []) (hG : X.A.guards = some []) (hr : Room (k + 1) X.A)
    (hg : Gl X "len") (hml : X.mg "len" = none) (he : De X W e fe) (hst : starEach [e] X.env = (false, eval e X.env) :: starEach [] X.env := by rfl) (hpl : (backTo pos (starEach [] X.env)).any (·.1) = false := by rfl) : De X W (.Call (.Name "len" p) [e] [] pos) (sLenO c n F fe) := fun S0 => by
  refine peW (pe_callB (call_lenO hm hs hf G hb hG hr) hg hml PySem.boot_len (pa_cons (he S0) pa_nil hst) (by decide) (by decide) hst hpl) fun σ H Q q => ?_
  obtain ⟨S, env, rfl, ok, er, q⟩ := q
  refine ⟨S, env, rfl, ok, er, q.imp fun d st q1 v S1 x1 ok1 e1 r1 => ?_⟩
  subst e1
  show rLen X.K [v] S1.H Q ∨ _
  have plain : ∀ d', dLen [d] = some d' → (∀ v S', Ext S S' → SOk X.K X.mg S' → S'.st = S1.st → RepS X.K X.mg S' v d' → Q v S'.H) → rLen X.K [v] S1.H Q := fun d' e' z => b_len S1 [v] [d] d' Q ok1 (.cons r1 .nil) e' fun v' S' xx ok' es r => z v' S' (Ext.trans ok1 x1 xx) ok' es r
  cases d with
  | obj c' ds =>
    dsimp only at q1
    by_cases hz : c' = c ∧ n = 1
    · rw [if_pos hz] at q1
      obtain ⟨rfl, rfl⟩ := hz
      cases ef : F [.obj c' ds] S1.st with
      | bad => rw [ef] at q1; exact q1.elim
      | ex _ _ _ => rw [ef] at q1; exact q1.elim
      | ok dm st2 =>
        rw [ef] at q1
        cases dm with
        | int m =>
          dsimp only at q1
          by_cases hb' : 0 ≤ m ∧ m < 2 ^ 63
          · rw [if_pos hb'] at q1
            exact .inr ⟨rfl, S1, ds, [], _, _, rfl, ok1, .cons r1 .nil, rfl, ef, ⟨m, rfl, hb'.1, hb'.2⟩, fun v' S' xx ok' es r => q1 v' S' (Ext.trans ok1 x1 xx) ok' es r⟩
          · rw [if_neg hb'] at q1; exact q1.elim
        | _ => exact (show False from q1).elim
    · rw [if_neg hz] at q1; exact q1.elim
  | tup ds => exact .inl (plain _ rfl q1)
  | lst ds => exact .inl (plain _ rfl q1)
  | scr ds => exact .inl (plain _ rfl q1)
  | str x =>
    have q1 : outE X.K X.mg W σ S (Out.of (dLen [.str x]) S1.st) _ := q1
    cases e' : dLen [.str x] with
    | none => rw [e'] at q1; exact q1.elim
    | some d' =>
      rw [e'] at q1
      exact .inl (plain _ e' q1)
  | _ => exact (show False from q1).elim
/-- what == asks of y: an instance, or plain data; K says that its class does not come first -/
structure NF (K : PySem.W.Frag) (mg : Str → Option Value) (C : Addr) (cs : List Str) : Prop where
  ob : ∀ c ∈ cs, ∃ C', mg c = some (.ref C') ∧ PySem.W.notFirst K C (.ref C') = true
  ty : ∀ t ∈ ["NoneType", "bool", "int", "str", "tuple", "list"], PySem.W.notFirst K C (.type t) = true
def nfD (cs : List Str) : Dat → Bool
  | .obj c _ => cs.contains c
  | d => (tyD d).isSome
theorem tyD_mem {d : Dat} {t : String} (h : tyD d = some t) : t ∈ ["NoneType", "bool", "int", "str", "tuple", "list"] := by
  cases d <;> simp [tyD] at h <;> subst h <;> decide
theorem nf_looks {cs : List Str} {S : Sx} {y : V} {u : Value} {d : Dat} (N : NF X.K X.mg C cs) (I : Inv X pins σ S.H s) (ok : SOk X.K X.mg S) (ry : RelV y u) (r : RepS X.K X.mg S y d) (h : nfD cs d = true) : ∃ tb, PySem.W.Looks (model X.prog X.w) s.heap (typeOf u) tb ∧ PySem.W.notFirst X.K C tb = true := by
  have plain : (tyD d).isSome = true → ∃ tb, PySem.W.Looks (model X.prog X.w) s.heap (typeOf u) tb ∧ PySem.W.notFirst X.K C tb = true := fun e => by
    obtain ⟨t, et⟩ := Option.isSome_iff_exists.mp e
    obtain ⟨P, Z, p, _⟩ := kit_of I ry (rep_ty ok r et)
    exact ⟨_, Z.ty _ _ I.kIn p, N.ty t (tyD_mem et)⟩
  cases d with
  | obj c ds =>
    obtain ⟨C', hm, hn⟩ := N.ob c (List.contains_iff_mem.mp h)
    obtain ⟨a, dx, vs, rfl, hsl⟩ := rO.inst ok hm r
    cases (show u = Value.ref a from ry)
    obtain ⟨sl, od, _, J, _⟩ := slt_inst I hsl
    exact ⟨_, J.type, hn⟩
  | _ => exact plain h
/-- x == y, x an instance of the class c (its __eq__ at g) -/
def rEqO (K : PySem.W.Frag) (mg : Str → Option Value) (c : Str) (cs : List Str) (F : Fn) (neg : Bool) : R2 := fun x y H Q => ∃ (S : Sx) (es : List Dat) (dy : Dat) (b : Bool) (st : Sto), S.H = H ∧ SOk K mg S ∧ RepS K mg S x (.obj c es) ∧ RepS K mg S y dy ∧ nfD cs dy = true ∧ F [.obj c es, dy] S.st = .ok (.bl b) st ∧
  ∀ S', Ext S S' → SOk K mg S' → S'.st = st → Q (.bl (b != neg)) S'.H
theorem op_eqO {c : Str} {cs : List Str} {r : R2} (hd : OpR X (compareOp .Eq) r) (hm : X.mg c = some (.ref C)) (hs : PySem.W.findIn X.K (.ref C) "__eq__" = some (some (.ref g))) (hf : PySem.W.isFn X.K (.ref g) = true) (N : NF X.K X.mg C cs) (G : FnG X.prog X.w X.K X.mg X.base (L2.CX X.prog X.w) k g fd ps (spF X.K X.mg 2 F)) (hb : Binds X.K fd ps []) (hG : X.A.guards = some []) (hr : Room k X.A) :
    OpR X (compareOp .Eq) (fun x y H Q => r x y H Q ∨ rEqO X.K X.mg c cs F false x y H Q) := by
  intro pins s σ H x y v u Q I rx ry h
  rcases h with h | ⟨S, es, dy, b, st, rfl, ok, r1, r2, hn, eF, q⟩
  · exact hd pins s σ H x y v u Q I rx ry h
  · obtain ⟨a, dx, vs, rfl, hsl⟩ := rO.inst ok hm r1
    cases (show v = Value.ref a from rx)
    obtain ⟨sl, od, _, J, _⟩ := slt_inst I hsl
    obtain ⟨mm, hF⟩ := I.fr
    obtain ⟨tb, L, nf⟩ := nf_looks N I ok ry r2 hn
    show wpAny _ _ (richCompare .Eq (.ref a) u) _ _ s
    refine PySem.W.cmp_K (op := .Eq) hr.units0 hF I.ok.mod.kin J L nf hs hf ?_
    refine wpAny_mono (wpAny_call (runO (us := [.ref a, u]) (vs := [.ref a, y]) (Q := fun v H' => v = .bl b ∧ Q v H') G hb hG hr I.env0 I (.cons rfl (.cons ry .nil)) ok (.cons r1 (.cons r2 .nil)) rfl eF (fun v S' xx ok' e' r' => by
      cases r'
      have := q S' xx ok' e'
      rw [Bool.bne_false] at this
      exact ⟨rfl, this⟩))) (fun w s' z => ?_) fun _ _ x => x
    obtain ⟨z', H', I', rz, rfl, qz⟩ := z
    exact cmpback rz ⟨_, H', I', rz, qz⟩
/-- object.__ne__, by the own __eq__ -/
theorem ne_K {prog : Program} {w : World} {A : Around} {E : Value → Shared → Prop} {s : Shared} {K : PySem.W.Frag} {x C f : Addr} {ox : Obj} {od : Option Obj} {b tb : Value} {Q : Value → Shared → Prop} (hu : A.in1.units < cLine) (hu0 : A.units < cLine) (Xk : K.In s.heap) (I : PySem.W.InstAt s.heap x ox C od) (hb : PySem.W.Looks (model prog w) s.heap (typeOf b) tb) (hn : PySem.W.notFirst K C tb = true)
    (hne : PySem.W.findIn K (.ref C) "__ne__" = some (some (.builtin "object.__ne__"))) (hob : PySem.W.subIn K (.ref C) (.type "object") = some true)
    (hs : PySem.W.findIn K (.ref C) "__eq__" = some (some (.ref f))) (hf : PySem.W.isFn K (.ref f) = true)
    (h : wpAny (model prog w) A.in1 (call (.ref f) [.ref x, b]) (fun r s' => ∃ k, r = .bool k ∧ Q (.bool (!k)) s') E s) : wpAny (model prog w) A (richCompare .NotEq (.ref x) b) Q E s := by
  have slot : PySem.Slot "object" "__ne__" "object.__ne__" := F.cmp_object.ne
  have hi : PySem.W.Looks (model prog w) s.heap (isInstance (.ref x) (.type "object")) true := I.type.andThen (PySem.W.looks_subIn Xk hob)
  have one : wpAny (model prog w) A (tryCompare (.ref x) (cmpInfo .NotEq).2.1 b) (fun r s' => ∃ v, r = some v ∧ Q v s') E s := by
    have call1 : wpAny (model prog w) A (call (.builtin "object.__ne__") [.ref x, b]) (fun v s' => ∃ k, v = .bool k ∧ Q v s') E s := by
      refine wpAny_call (codeAny_call_builtin slot.plain F.cmpEntry_ne (PySem.W.check_slot F.cmpKind_ne F.cmpSplit_ne hi (F.cmpArgs_ne _ _) ?_))
      unfold Builtin.«object.__ne__»
      refine wpAny_bind (m := slotArgs "__ne__" 1 _) (wpAny_pure ?_)
      refine wpAny_bind (wpAny_cRoomFor hu ?_)
      refine wpAny_bind (m := callSpecialIfBound? (.ref x) (Str.ofString "__eq__") [b]) (PySem.W.ifBound_K Xk I hs hf (wpAny_mono h (fun r s' hr => ?_) fun _ _ z => z))
      obtain ⟨kb, rfl, hq⟩ := hr
      dsimp only
      refine wpAny_bind (wpAny_truthy_bool ?_)
      exact wpAny_pure ⟨_, rfl, hq⟩
    have bound : wpAny (model prog w) A (callSpecialIfBound? (.ref x) (cmpInfo .NotEq).2.1 [b]) (fun r s' => ∃ k, r = some (.bool k) ∧ Q (.bool k) s') E s := by
      simp only [callSpecialIfBound?, bindSpecialIfBound?]
      refine wpAny_holding (wpAny_bind (wpAny_bind (wpAny_bind (I.type.here ((PySem.W.looks_findIn Xk hne).here ?_)))))
      simp only [slot.bind]
      refine wpAny_bind (wpAny_askSetting (wpAny_ite ?_))
      have fin : wpAny (model prog w) A (call (.builtin "object.__ne__") ([.ref x] ++ [b]) >>= fun v => pure (some v)) (fun r s' => ∃ k, r = some (.bool k) ∧ Q (.bool k) s') E s :=
        wpAny_bind (wpAny_mono call1 (fun v s' ⟨k, e, hq⟩ => wpAny_pure (by subst e; exact ⟨k, rfl, hq⟩)) fun _ _ h' => h')
      split
      · exact wpAny_bind (wpAny_pure (wpAny_pure fin))
      · exact wpAny_tryCatch (wpAny_bind (wpAny_pure (wpAny_pure fin)))
    unfold tryCompare
    refine wpAny_bind (wpAny_mono bound (fun r s' hr => ?_) fun _ _ e => e)
    obtain ⟨kb, rfl, hq⟩ := hr
    exact wpAny_pure ⟨_, rfl, hq⟩
  unfold richCompare
  simp only [oneThing_ref]
  refine wpAny_holding (wpAny_bind (wpAny_cRoomFor hu0 ?_))
  refine wpAny_bind (I.type.here (wpAny_bind (hb.here ?_)))
  split
  · rename_i q
    have e : PySem.W.subIn K tb (.ref C) = some false := by
      rcases Bool.or_eq_true_iff.mp hn with e | e
      · rw [beq_iff_eq.mp e] at q; simp at q
      · exact beq_iff_eq.mp e
    refine wpAny_bind ((PySem.W.looks_subIn Xk e).here ?_)
    simp only [Bool.false_eq_true, if_false]
    refine wpAny_bind (wpAny_mono one (fun r s' z => ?_) fun _ _ e => e)
    obtain ⟨v, rfl, hq⟩ := z
    exact wpAny_pure hq
  · refine wpAny_bind (wpAny_pure ?_)
    simp only [Bool.false_eq_true, if_false]
    refine wpAny_bind (wpAny_mono one (fun r s' z => ?_) fun _ _ e => e)
    obtain ⟨v, rfl, hq⟩ := z
    exact wpAny_pure hq
end
end GI
set_option Elab.async false
set_option linter.all false
set_option maxRecDepth 100000
set_option maxHeartbeats 2000000
namespace GI
open PySem PySem.Spec PyProof.Rows L2 SlX
section
variable {X : Cx} {W : WX} {pins : List (Addr × Obj)} {σ : L2.St} {H : Hp} {s : Shared} {F : Fn} {n k : Nat} {g C : Addr} {fd : FuncData} {ps : List Str} {a b e : Expr} {fa fb fe : Ev} {c : Str} {cs : List Str} {pos : Pos}
theorem op_neO {r : R2} (hd : OpR X (compareOp .NotEq) r) (hm : X.mg c = some (.ref C)) (hne : PySem.W.findIn X.K (.ref C) "__ne__" = some (some (.builtin "object.__ne__"))) (hob : PySem.W.subIn X.K (.ref C) (.type "object") = some true) (hs : PySem.W.findIn X.K (.ref C) "__eq__" = some (some (.ref g))) (hf : PySem.W.isFn X.K (.ref g) = true) (N : NF X.K X.mg C cs) (G : FnG X.prog X.w X.K X.mg X.base (L2.CX X.prog X.w) k g fd ps (spF X.K X.mg 2 F)) (hb : Binds X.K fd ps []) (hG : X.A.guards = some []) (hr : Room (k + 1) X.A) :
    OpR X (compareOp .NotEq) (fun x y H Q => r x y H Q ∨ rEqO X.K X.mg c cs F true x y H Q) := by
  intro pins s σ H x y v u Q I rx ry h
  rcases h with h | ⟨S, es, dy, b, st, rfl, ok, r1, r2, hn, eF, q⟩
  · exact hd pins s σ H x y v u Q I rx ry h
  · obtain ⟨a, dx, vs, rfl, hsl⟩ := rO.inst ok hm r1
    cases (show v = Value.ref a from rx)
    obtain ⟨sl, od, _, J, _⟩ := slt_inst I hsl
    obtain ⟨tb, L, nf⟩ := nf_looks N I ok ry r2 hn
    show wpAny _ _ (richCompare .NotEq (.ref a) u) _ _ s
    refine ne_K hr.in1.units0 hr.units0 I.kIn J L nf hne hob hs hf ?_
    refine wpAny_mono (wpAny_call (runO (A := X.A.in1) (us := [.ref a, u]) (vs := [.ref a, y]) (Q := fun v H' => v = .bl b ∧ Q (.bl (!b)) H') G hb (show X.A.in1.guards = some [] from hG) hr.in1 I.env0.in1 I (.cons rfl (.cons ry .nil)) ok (.cons r1 (.cons r2 .nil)) rfl eF (fun v S' xx ok' e' r' => by
      cases r'
      have := q S' xx ok' e'
      rw [Bool.bne_true] at this
      exact ⟨rfl, this⟩))) (fun w s' z => ?_) fun _ _ x => x
    obtain ⟨z', H', I', rz, rfl, qz⟩ := z
    cases (show w = Value.bool b from rz)
    exact ⟨b, rfl, .bl (!b), H', I', rfl, qz⟩
/-- x == y or x != y, x perhaps an instance of c -/
def sEqO (c : Str) (cs : List Str) (F : Fn) (neg : Bool) (gd : Dat → Dat → Option Dat) (fa fb : Ev) : Ev := fun env st => (fa env st).bind fun x st1 => (fb env st1).bind fun y st2 => match x with
  | .obj c' es => if c' = c ∧ nfD cs y = true then (match F [.obj c' es, y] st2 with
    | .ok (.bl b) st3 => .ok (.bl (b != neg)) st3
    | _ => .bad) else .bad
  | x => Out.of (gd x y) st2
theorem eqO_of {K : PySem.W.Frag} {mg : Str → Option Value} {neg : Bool} {gd : Dat → Dat → Option Dat} {r : R2} (hg : Op2 K mg r gd) {S0 : Sx} {H : Hp} {Q : VK} (h : tE K mg S0 W (sEqO c cs F neg gd fa fb) σ H Q) :
    tE K mg S0 W fa σ H fun x H1 => tE K mg S0 W fb σ H1 fun y H2 => r x y H2 Q ∨ rEqO K mg c cs F neg x y H2 Q := by
  refine tE2 h fun S x y dx dy env ok er rx ry q => ?_
  have plain : ∀ q : outE K mg W σ S (Out.of (gd dx dy) S.st) (fun d st => ∀ v S', Ext S S' → SOk K mg S' → S'.st = st → RepS K mg S' v d → Q v S'.H), r x y S.H Q := fun q => by
    cases e : gd dx dy with
    | none => rw [e] at q; exact q.elim
    | some d => rw [e] at q; exact hg S x y dx dy d Q ok rx ry e q
  cases dx with
  | obj c' es =>
    dsimp only at q
    by_cases hz : c' = c ∧ nfD cs dy = true
    · rw [if_pos hz] at q
      obtain ⟨rfl, hn⟩ := hz
      cases ef : F [.obj c' es, dy] S.st with
      | bad => rw [ef] at q; exact q.elim
      | ex _ _ _ => rw [ef] at q; exact q.elim
      | ok dm st2 =>
        rw [ef] at q
        cases dm with
        | bl b => exact .inr ⟨S, es, dy, b, st2, rfl, ok, rx, ry, hn, ef, fun S' xx ok' e' => q _ S' xx ok' e' (.bl _)⟩
        | _ => exact (show False from q).elim
    · rw [if_neg hz] at q; exact q.elim
  | _ => exact .inl (plain q)
theorem d_cmpO {op : CmpOp} {r : R2} {neg : Bool} {gd : Dat → Dat → Option Dat} (ho : OpR X (compareOp op) (fun x y H Q => r x y H Q ∨ rEqO X.K X.mg c cs F neg x y H Q)) (hg : Op2 X.K X.mg r gd) (ha : De X W a fa) (hb : De X W b fb) (hm : behindInMarks op b = false) : De X W (.Compare a [op] [b] pos) (sEqO c cs F neg gd fa fb) := fun S0 =>
  peW (pe_cmpR ho (ha S0) (hb S0) hm) fun σ H Q h => eqO_of hg h
theorem dt_cmpO {op : CmpOp} {r : R2} {neg : Bool} {gd : Dat → Dat → Option Dat} (ho : OpR X (compareOp op) (fun x y H Q => r x y H Q ∨ rEqO X.K X.mg c cs F neg x y H Q)) (hg : Op2 X.K X.mg r gd) (ha : De X W a fa) (hb : De X W b fb) (hm : behindInMarks op b = false) : Dt X W (.Compare a [op] [b] pos) (sEqO c cs F neg gd fa fb) := fun S0 => by
  refine ptW (pt_cmpR ho (ha S0) (hb S0) hm) fun σ H Q h => ?_
  obtain ⟨S, env, rfl, ok, er, q⟩ := h
  have h' : tE X.K X.mg S0 W (sEqO c cs F neg gd fa fb) σ S.H (fun x H' => ∃ k, x = .bl k ∧ Q k H') := ⟨S, env, rfl, ok, er, q.later ok (Ext.refl S) fun d st z v S' xx ok' es r => by
    obtain ⟨k, rfl, z⟩ := z
    cases r
    exact ⟨k, rfl, z S' xx ok' es⟩⟩
  exact eqO_of hg h'
def sIxO (c : Str) (F : Fn) (fa fb : Ev) : Ev := fun env st => (fa env st).bind fun x st1 => (fb env st1).bind fun y st2 => match x with
  | .obj c' es => if c' = c then F [.obj c' es, y] st2 else .bad
  | x => Out.of (dIx x y) st2
/-- as tOp, with what an exception wants -/
def tIxO (C : Addr) (r : R2) (sp : Sp) (E : L2.St → XK) (ta tb : TE) : TE := fun σ H Q => ta σ H fun x H1 => tb σ H1 fun y H2 => r x y H2 Q ∨ ∃ a dx vs, x = .ref a ∧ Slt H2 a C dx vs ∧ sp [x, y] H2 Q (E σ)
/-- run_G, at another place of the stack -/
theorem run_GA {CX : CXT} {sp : Sp} {E : L2.St → XK} {A : Around} {Q : VK} {us : List Value} {vs : List V} (G : FnG X.prog X.w X.K X.mg X.base CX k g fd ps sp) (hb : Binds X.K fd ps []) (hGA : A.guards = some []) (hr : Room k A) (e0 : Env0 X.prog X.w X.K X.mg X.base A X.stack s H) (hx : PassesAt CX X σ (E σ))
    (I : Inv X pins σ H s) (r : Vals vs us) (h : sp vs H Q (E σ)) : wpAny (model X.prog X.w) A (call (.ref g) us) (EP X pins σ Q) X.xe s := by
  have hl : us.length = ps.length := by rw [← r.length]; exact G.len _ _ _ _ h
  have b := hb s us I.kIn (by rw [List.append_nil]; exact hl)
  rw [List.append_nil] at b
  refine wpAny_call (codeAny_mono (G.run A X.stack s H ⟨us, []⟩ us vs Q (E σ) hGA hr e0 b r h) fun r s' hq => ?_)
  cases r with
  | error e => exact hx pins H s e s' I hq
  | ok fl =>
    cases fl with
    | ret u => exact I.after hq
    | next => exact False.elim hq
    | brk => exact False.elim hq
    | cont => exact False.elim hq
def OwnIx (b : Expr) : Prop := ∀ x i, subscripted b true (.ref x) i = runValue (.builtin "lifetime.subscript" ⟨[.ref x, i], []⟩)
theorem pe_ixO {CX : CXT} {r : R2} {sp : Sp} {E : L2.St → XK} {ta tb : TE} (hi : IxR X r) (hs : PySem.W.findIn X.K (.ref C) "__getitem__" = some (some (.ref g))) (hfn : PySem.W.fnIn X.K g = true) (hf : PySem.W.isFn X.K (.ref g) = true) (G : FnG X.prog X.w X.K X.mg X.base CX k g fd ps sp) (hb : Binds X.K fd ps []) (hG : X.A.guards = some []) (hr : Room (k + 1) X.A) (hx : ∀ σ, PassesAt CX X σ (E σ))
    (ha : PE X a ta) (hbb : PE X b tb) (hsl : PlainIx b) (hso : OwnIx b) : PE X (.Subscript a b pos) (tIxO C r sp E ta tb) := by
  refine ⟨fun pins s σ H Q I h => ?_⟩
  have h : tOp (fun x y H2 Q => r x y H2 Q ∨ ∃ a dx vs, x = .ref a ∧ Slt H2 a C dx vs ∧ sp [x, y] H2 Q (E σ)) ta tb σ H Q := h
  refine Subscript_ (binT ha hbb I h fun v u s2 x y H2 I2 rx ry q => ?_)
  rcases q with q | ⟨ad, dx, vs, rfl, hsl2, q⟩
  · exact hi a b pins s2 σ H2 x y v u Q I2 rx ry q (hsl _ _)
  · cases (show v = Value.ref ad from rx)
    obtain ⟨sl, od, _, J, _⟩ := slt_inst I2 hsl2
    obtain ⟨mm, hF⟩ := I2.fr
    exact PySem.W.sub_K hF I2.ok.mod.kin J hs hfn hf (run_GA G hb (show X.A.in1.guards = some [] from hG) hr.in1 I2.env0.in1 (hx σ) I2 (vs := [.ref ad, y]) (.cons rfl (.cons ry .nil)) q) (hso _ _)
theorem d_ixO (hm : X.mg c = some (.ref C)) (hs : PySem.W.findIn X.K (.ref C) "__getitem__" = some (some (.ref g))) (hfn : PySem.W.fnIn X.K g = true) (hf : PySem.W.isFn X.K (.ref g) = true) (G : FnG X.prog X.w X.K X.mg X.base (L2.CX X.prog X.w) k g fd ps (spF X.K X.mg 2 F)) (hb : Binds X.K fd ps []) (hG : X.A.guards = some []) (hr : Room (k + 1) X.A) (tk : Takes X W)
    (ha : De X W a fa) (hbb : De X W b fb) (hsl : PlainIx b) (hso : OwnIx b) : De X W (.Subscript a b pos) (sIxO c F fa fb) := fun S0 => by
  refine peW (pe_ixO (C := C) (E := fun σ c d H => W c d σ H) ix_seq hs hfn hf G hb hG hr (fun σ => passAt tk σ) (ha S0) (hbb S0) hsl hso) fun σ H Q h => ?_
  refine tE2 h fun S x y dx dy env ok er rx ry q => ?_
  have plain : ∀ q : outE X.K X.mg W σ S (Out.of (dIx dx dy) S.st) (fun d st => ∀ v S', Ext S S' → SOk X.K X.mg S' → S'.st = st → RepS X.K X.mg S' v d → Q v S'.H), rIx X.K x y S.H Q := fun q => by
    cases e : dIx dx dy with
    | none => rw [e] at q; exact q.elim
    | some d => rw [e] at q; exact o2_ix S x y dx dy d Q ok rx ry e q
  cases dx with
  | obj c' es =>
    dsimp only at q
    by_cases hz : c' = c
    · rw [if_pos hz] at q
      subst hz
      obtain ⟨ad, dx, vs, rfl, hsl2⟩ := rO.inst ok hm rx
      refine .inr ⟨ad, dx, vs, rfl, hsl2, rfl, S, [.obj c' es, dy], rfl, ok, .cons rx (.cons ry .nil), ?_⟩
      cases ef : F [.obj c' es, dy] S.st with
      | ok d st2 => rw [ef] at q; exact q
      | ex _ _ _ => rw [ef] at q; exact q
      | bad => rw [ef] at q; exact q
    · rw [if_neg hz] at q; exact q.elim
  | _ => exact .inl (plain q)
structure IsC (K : PySem.W.Frag) (mg : Str → Option Value) (C : Addr) (tab : List (Str × Bool)) : Prop where
  ob : ∀ c b, tab.lookup c = some b → ∃ C', mg c = some (.ref C') ∧ SCls K C' ∧ SIsi K C' ∧ PySem.W.kitOne K (.ref C') (.ref C) = some b
  ty : ∀ t ∈ ["NoneType", "bool", "int", "str", "tuple", "list"], PySem.W.kitOne K (.type t) (.ref C) = some false
def dIsiC (tab : List (Str × Bool)) (d : Dat) : Option Dat := match d with
  | .obj c _ => (tab.lookup c).map Dat.bl
  | d => (tyD d).map fun _ => .bl false
theorem call_isiC (C : Addr) : CallR X (.builtin "isinstance") (fun xs H Q => rIsi X.K xs H Q ∨ rIsiSl X.K (.ref C) xs H Q) := by
  intro pins s σ H xs us Q I r h
  rcases h with h | h
  · exact call_isi pins s σ H xs us Q I r h
  · exact call_isiSl _ pins s σ H xs us Q I r h
theorem d_isiC {y : Str} {tab : List (Str × Bool)} {p py : Pos} (hc : IsC X.K X.mg C tab) (hg : Gl X "isinstance") (hm : X.mg "isinstance" = none) (ha : De X W a fa) (hgy : Gl X y) (hmy : X.mg y = some (.ref C)) (hdb : (y == ("__debug__" : Str)) = false := by decide)
    (he : starEach [a, .Name y py] X.env = (false, eval a X.env) :: starEach [.Name y py] X.env := by rfl) (he2 : starEach [.Name y py] X.env = (false, eval (.Name y py) X.env) :: starEach [] X.env := by rfl) (hpl : (backTo pos (starEach [.Name y py] X.env)).any (·.1) = false := by rfl) :
    De X W (.Call (.Name "isinstance" p) [a, .Name y py] [] pos) (s1 (dIsiC tab) fa) := fun S0 => by
  refine peW (pe_callB (call_isiC C) hg hm PyProof.Rows.boot_isinstance (pa_cons (ha S0) (pa_cons (pe_glob (v := .ref C) hgy hmy rfl hdb) pa_nil he2) he) (by decide) (by decide) he hpl) fun σ H Q q => ?_
  obtain ⟨S, env, rfl, ok, er, q⟩ := q
  refine ⟨S, env, rfl, ok, er, q.imp fun dx st1 q1 x S1 x1 ok1 e1 r1 => ?_⟩
  subst e1
  have plain : ∀ t, tyD dx = some t → (∀ v S', Ext S S' → SOk X.K X.mg S' → S'.st = S1.st → RepS X.K X.mg S' v (.bl false) → Q v S'.H) → rIsi X.K [x, .ref C] S1.H Q := fun t et z =>
    ⟨x, .ref C, .type t, .ref C, false, rfl, .own C, rep_ty ok1 r1 et, hc.ty t (tyD_mem et), z _ S1 x1 ok1 rfl (.bl false)⟩
  cases dx with
  | obj c ds =>
    dsimp only [dIsiC] at q1
    cases el : tab.lookup c with
    | none => rw [el] at q1; exact q1.elim
    | some b =>
      rw [el] at q1
      obtain ⟨C', hm', hs, hi, hk⟩ := hc.ob c b el
      obtain ⟨ad, dx, vs, rfl, hsl⟩ := rO.inst ok1 hm' r1
      exact .inr ⟨ad, C', dx, vs, .ref C, b, rfl, rfl, fun w r => r, hsl, hs, hi, hk, q1 _ S1 x1 ok1 rfl (.bl b)⟩
  | non => exact .inl (plain _ rfl q1)
  | bl _ => exact .inl (plain _ rfl q1)
  | int _ => exact .inl (plain _ rfl q1)
  | str _ => exact .inl (plain _ rfl q1)
  | tup _ => exact .inl (plain _ rfl q1)
  | lst _ => exact .inl (plain _ rfl q1)
  | _ => exact (show False from q1).elim
end
end GI
set_option Elab.async false
set_option linter.all false
set_option maxRecDepth 100000
set_option maxHeartbeats 2000000
namespace GI
open PySem PySem.Spec PyProof.Rows L2
def lc2L (t : Tg) (fc : Ev) (fi1 : EvL) (t1 : Tg) (fc1 fe : Ev) (vs1 : List Nat) (env : Env) : List Dat → Sto → Out (List Dat)
  | [], st => .ok [] st
  | d :: r, st => match t d with
    | some bs => match fc (setE env bs) st with
      | .ok (.bl true) st1 => match fi1 (setE env bs) st1 with
        | .ok ds1 st2 => match lcL t1 fc1 fe (wipeE (setE env bs) vs1) ds1 st2 with
          | .ok ys st3 => (lc2L t fc fi1 t1 fc1 fe vs1 env r st3).bind fun zs st4 => .ok (ys ++ zs) st4
          | _ => .bad
        | _ => .bad
      | .ok (.bl false) st1 => lc2L t fc fi1 t1 fc1 fe vs1 env r st1
      | _ => .bad
    | none => .bad
def sLc2 (t : Tg) (fi : EvL) (fc : Ev) (t1 : Tg) (fi1 : EvL) (fc1 fe : Ev) (vs vs1 : List Nat) : Ev := fun env st => (fi env st).bind fun ds st1 => match lc2L t fc fi1 t1 fc1 fe vs1 (wipeE env vs) ds st1 with
  | .ok ys st2 => if many ys then .ok (.lst ys) st2 else .bad
  | _ => .bad
theorem PB.gx {K : PySem.W.Frag} {mg : Str → Option Value} {S S' : Sx} (x : Gx S S') : ∀ {a : List (Nat × V)} {c : List (Nat × Dat)}, PB K mg S a c → PB K mg S' a c
  | _, _, .nil => .nil
  | _, _, .cons h t => .cons ⟨h.1, h.2.gx x⟩ (PB.gx x t)
section
variable {K : PySem.W.Frag} {mg : Str → Option Value} {t t1 : Tg} {fc fc1 fe : Ev} {fi1 : EvL}
/-- the inner loop -/
theorem lc_in {S0 Sb S4 : Sx} {σ2 : L2.St} {env2 : Env} {vs1 : List Nat} {ds1 : List Dat} {J1 : It} {D : Addr} {Nx : Hp → Prop} {acc0V : List V} {acc0 ys : List Dat} {st2 : Sto} (hDb : Sb.H D = none) (ok4 : SOk K mg S4) (xb4 : Ext Sb S4) (hD4 : S4.H D = some (.lst acc0V)) (hG4 : S4.G D = none) (hr4 : D ∉ S4.r) (ra0 : RepSL K mg S4 acc0V acc0)
    (er : ∀ S2, Ext Sb S2 → Gx S4 S2 → SOk K mg S2 → EnvRep K mg S0 S2 σ2 env2) (hv : TgIn t1 vs1) (hl : lcL t1 fc1 fe (wipeE env2 vs1) ds1 S4.st = .ok ys st2) (wk : Walks K mg J1 S4 ds1) (hbd : acc0.length + ys.length ≤ 1000000)
    (hq : ∀ S2 accV, Ext Sb S2 → Gx S4 S2 → SOk K mg S2 → S2.st = st2 → S2.H D = some (.lst accV) → S2.G D = none → D ∉ S2.r → RepSL K mg S2 accV (acc0 ++ ys) → Nx S2.H) :
    ∃ W1 : Nat → Nat → Hp → Prop, (∃ m, W1 0 m S4.H) ∧ ∀ j k H, W1 j k H →
      (J1.stop j H ∧ Nx H) ∨ (J1.go j H ∧ ∃ Nx1 : Hp → Prop, (∀ H', Nx1 H' → ∃ k', k' < k ∧ W1 (j + 1) k' H') ∧ ∀ x H', J1.yld j H x H' → gT K mg t1 x (wipe σ2 vs1) H' fun σ3 H5 => wipe σ3 vs1 = wipe σ2 vs1 ∧ tT K mg S0 WF fc1 σ3 H5 fun b H6 =>
        if b = true then tE K mg S0 WF fe σ3 H6 fun y H7 => ∃ acc, H7 D = some (.lst acc) ∧ acc.length < sizeLine ∧ Nx1 (upd H7 D (.lst (acc ++ [y]))) else Nx1 H6) := by
  refine ⟨fun i m H => m = ds1.length - i ∧ i ≤ ds1.length ∧ ∃ (S2 : Sx) (accV : List V) (acc rest : List Dat), S2.H = H ∧ SOk K mg S2 ∧ Ext Sb S2 ∧ Gx S4 S2 ∧ S2.H D = some (.lst accV) ∧ S2.G D = none ∧ D ∉ S2.r ∧ RepSL K mg S2 accV (acc0 ++ acc) ∧
    lcL t1 fc1 fe (wipeE env2 vs1) (ds1.drop i) S2.st = .ok rest st2 ∧ ys = acc ++ rest, ⟨ds1.length, rfl, Nat.zero_le _, S4, acc0V, [], ys, rfl, ok4, xb4, Gx.refl S4, hD4, hG4, hr4, by rw [List.append_nil]; exact ra0, hl, rfl⟩, ?_⟩
  rintro i m H ⟨rfl, hi, S2, accV, acc, rest, rfl, ok2, x2, g2, hD2, hG2, hr2, ra, hl2, rfl⟩
  obtain ⟨wgo, wst⟩ := wk S2 g2 ok2
  by_cases hlt : i < ds1.length
  · refine .inr ⟨(wgo i ds1[i] (List.getElem?_eq_getElem hlt)).1, _, fun H' h' => ⟨ds1.length - (i + 1), by omega, rfl, hlt, h'⟩, fun x H' y => ?_⟩
    obtain ⟨S3, rfl, x3, ok3, e3, r3⟩ := (wgo i ds1[i] (List.getElem?_eq_getElem hlt)).2 x H' y
    rw [List.drop_eq_getElem_cons hlt] at hl2
    unfold lcL at hl2
    cases et : t1 ds1[i] with
    | none => rw [et] at hl2; cases hl2
    | some bs =>
      rw [et] at hl2
      try dsimp only at hl2
      refine ⟨S3, ds1[i], bs, rfl, ok3, r3, et, fun vbs pb => ⟨?_, ?_⟩⟩
      · rw [wipe_setV _ _ (pb.mem (hv _ _ et)), wipe_wipe σ2 vs1 vs1 fun _ h => h]
      · have x13 := Ext.trans ok2 x2 x3
        have g13 := g2.trans x3.gx
        have er3 : EnvRep K mg S0 S3 (setV (wipe σ2 vs1) vbs) (setE (wipeE env2 vs1) bs) := ((er S3 x13 g13 ok3).wipe vs1).setAll pb
        have hD3 : S3.H D = some (.lst accV) := x3.keep D _ hD2 hr2
        have hG3 : S3.G D = none := x3.nof D _ hD2 hG2
        have hr3 : D ∉ S3.r := fun hm => by
          rcases x3.new D hm with q | q
          · exact hr2 q
          · rw [hD2] at q; cases q
        refine ⟨S3, _, rfl, ok3, er3, ?_⟩
        rw [e3]
        cases ec : fc1 (setE (wipeE env2 vs1) bs) S2.st with
        | bad => rw [ec] at hl2; cases hl2
        | ex c fs st => rw [ec] at hl2; cases hl2
        | ok dc st3 =>
          rw [ec] at hl2
          try dsimp only at hl2
          cases dc with
          | bl b =>
            refine ⟨b, rfl, fun S4' x4 ok4' e4 => ?_⟩
            subst e4
            have hD4' : S4'.H D = some (.lst accV) := x4.keep D _ hD3 hr3
            have hG4' : S4'.G D = none := x4.nof D _ hD3 hG3
            have hr4' : D ∉ S4'.r := fun hm => by
              rcases x4.new D hm with q | q
              · exact hr3 q
              · rw [hD3] at q; cases q
            have x14 := Ext.trans ok3 x13 x4
            have g14 := g13.trans x4.gx
            cases b with
            | false =>
              rw [if_neg Bool.false_ne_true]
              exact ⟨S4', accV, acc, rest, rfl, ok4', x14, g14, hD4', hG4', hr4', (ra.ext x3).ext x4, hl2, rfl⟩
            | true =>
              rw [if_pos rfl]
              refine ⟨S4', _, rfl, ok4', er3.ext x4, ?_⟩
              have hl2 : (match fe (setE (wipeE env2 vs1) bs) S4'.st with
                | .ok y st2' => (lcL t1 fc1 fe (wipeE env2 vs1) (ds1.drop (i + 1)) st2').bind fun ys st3 => .ok (y :: ys) st3
                | _ => .bad) = .ok rest st2 := hl2
              cases ee : fe (setE (wipeE env2 vs1) bs) S4'.st with
              | bad => rw [ee] at hl2; cases hl2
              | ex c fs st => rw [ee] at hl2; cases hl2
              | ok dy st5 =>
                rw [ee] at hl2
                intro y S5 x5 ok5 e5 r5
                subst e5
                have hl2 : (lcL t1 fc1 fe (wipeE env2 vs1) (ds1.drop (i + 1)) S5.st).bind (fun ys st3 => .ok (dy :: ys) st3) = .ok rest st2 := hl2
                cases er' : lcL t1 fc1 fe (wipeE env2 vs1) (ds1.drop (i + 1)) S5.st with
                | bad => rw [er'] at hl2; cases hl2
                | ex c fs st => rw [er'] at hl2; cases hl2
                | ok rest' st6 =>
                  rw [er'] at hl2
                  cases hl2
                  have hD5 : S5.H D = some (.lst accV) := x5.keep D _ hD4' hr4'
                  have hG5 : S5.G D = none := x5.nof D _ hD4' hG4'
                  have hr5 : D ∉ S5.r := fun hm => by
                    rcases x5.new D hm with q | q
                    · exact hr4' q
                    · rw [hD4'] at q; cases q
                  have hav : accV.length = (acc0 ++ acc).length := ra.length
                  rw [List.length_append] at hav
                  rw [List.length_append, List.length_cons] at hbd
                  refine ⟨accV, hD5, by rw [hav, sizeLine_eq]; omega, { S5 with H := upd S5.H D (.lst (accV ++ [y])) }, accV ++ [y], acc ++ [dy], rest', rfl, ok5.mut hG5 hr5 _, (Ext.trans ok4' x14 x5).mut hDb _, ⟨(g14.trans x5.gx).gle, (g14.trans x5.gx).pre, (g14.trans x5.gx).me⟩, upd_same, hG5, hr5,
                    (show RepSL K mg S5 (accV ++ [y]) (acc0 ++ (acc ++ [dy])) from by rw [← List.append_assoc]; exact RepL.append (((ra.ext x3).ext x4).ext x5) (.cons r5 .nil)), er', by simp⟩
          | _ => cases hl2
  · have e : i = ds1.length := by omega
    subst e
    refine .inl ⟨wst, ?_⟩
    rw [List.drop_length] at hl2
    cases hl2
    rw [List.append_nil] at hq
    exact hq S2 accV x2 g2 ok2 rfl hD2 hG2 hr2 ra
theorem lc2_turns {S0 S1 : Sx} {σ : L2.St} {env : Env} {vs vs1 : List Nat} {ds : List Dat} {J : It} {D : Addr} {Qd : Hp → Prop} {ys : List Dat} {st2 : Sto} (ok1 : SOk K mg S1) (er : EnvRep K mg S0 S1 σ env) (hv : TgIn t vs) (hv1 : TgIn t1 vs1)
    (hlen : ys.length ≤ 1000000) (hl : lc2L t fc fi1 t1 fc1 fe vs1 (wipeE env vs) ds S1.st = .ok ys st2) (wk : Walks K mg J S1 ds) (hD : S1.H D = none)
    (hq : ∀ S2 accV, Ext S1 S2 → SOk K mg S2 → S2.st = st2 → S2.H D = some (.lst accV) → S2.G D = none → D ∉ S2.r → RepSL K mg S2 accV ys → Qd S2.H) :
    ∃ W : Nat → Nat → Hp → Prop, (∃ m, W 0 m (upd S1.H D (.lst []))) ∧ ∀ i m H, W i m H →
      (J.stop i H ∧ Qd H) ∨ (J.go i H ∧ ∃ Nx : Hp → Prop, (∀ H', Nx H' → ∃ m', m' < m ∧ W (i + 1) m' H') ∧ ∀ x H', J.yld i H x H' → gT K mg t x (wipe σ vs) H' fun σ2 H2 => wipe σ2 vs = wipe σ vs ∧ tT K mg S0 WF fc σ2 H2 fun b H3 =>
        if b = true then iT K mg S0 WF fi1 σ2 H3 fun J1 H4 => ∃ W1 : Nat → Nat → Hp → Prop, (∃ m, W1 0 m H4) ∧ ∀ j k H, W1 j k H →
          (J1.stop j H ∧ Nx H) ∨ (J1.go j H ∧ ∃ Nx1 : Hp → Prop, (∀ H', Nx1 H' → ∃ k', k' < k ∧ W1 (j + 1) k' H') ∧ ∀ x H', J1.yld j H x H' → gT K mg t1 x (wipe σ2 vs1) H' fun σ3 H5 => wipe σ3 vs1 = wipe σ2 vs1 ∧ tT K mg S0 WF fc1 σ3 H5 fun b H6 =>
            if b = true then tE K mg S0 WF fe σ3 H6 fun y H7 => ∃ acc, H7 D = some (.lst acc) ∧ acc.length < sizeLine ∧ Nx1 (upd H7 D (.lst (acc ++ [y]))) else Nx1 H6)
        else Nx H3) := by
  refine ⟨fun i m H => m = ds.length - i ∧ i ≤ ds.length ∧ ∃ (S2 : Sx) (accV : List V) (acc rest : List Dat), S2.H = H ∧ SOk K mg S2 ∧ Ext S1 S2 ∧ S2.H D = some (.lst accV) ∧ S2.G D = none ∧ D ∉ S2.r ∧ RepSL K mg S2 accV acc ∧
    lc2L t fc fi1 t1 fc1 fe vs1 (wipeE env vs) (ds.drop i) S2.st = .ok rest st2 ∧ ys = acc ++ rest, ⟨ds.length, rfl, Nat.zero_le _, S1.lay D (.lst []), [], [], ys, rfl, ok1.lay hD _, Ext.lay ok1 hD _, upd_same, ok1.noG hD, ok1.nor hD, .nil, hl, rfl⟩, ?_⟩
  rintro i m H ⟨rfl, hi, S2, accV, acc, rest, rfl, ok2, x2, hD2, hG2, hr2, ra, hl2, rfl⟩
  obtain ⟨wgo, wst⟩ := wk S2 x2.gx ok2
  by_cases hlt : i < ds.length
  · refine .inr ⟨(wgo i ds[i] (List.getElem?_eq_getElem hlt)).1, _, fun H' h' => ⟨ds.length - (i + 1), by omega, rfl, hlt, h'⟩, fun x H' y => ?_⟩
    obtain ⟨S3, rfl, x3, ok3, e3, r3⟩ := (wgo i ds[i] (List.getElem?_eq_getElem hlt)).2 x H' y
    rw [List.drop_eq_getElem_cons hlt] at hl2
    unfold lc2L at hl2
    cases et : t ds[i] with
    | none => rw [et] at hl2; cases hl2
    | some bs =>
      rw [et] at hl2
      try dsimp only at hl2
      refine ⟨S3, ds[i], bs, rfl, ok3, r3, et, fun vbs pb => ⟨?_, ?_⟩⟩
      · rw [wipe_setV _ _ (pb.mem (hv _ _ et)), wipe_wipe σ vs vs fun _ h => h]
      · have x13 := Ext.trans ok2 x2 x3
        have erAt : ∀ S', Ext S1 S' → Gx S3 S' → SOk K mg S' → EnvRep K mg S0 S' (setV (wipe σ vs) vbs) (setE (wipeE env vs) bs) := fun S' y g _ => ((er.ext y).wipe vs).setAll (pb.gx g)
        have er3 := erAt S3 x13 (Gx.refl S3) ok3
        have hD3 : S3.H D = some (.lst accV) := x3.keep D _ hD2 hr2
        have hG3 : S3.G D = none := x3.nof D _ hD2 hG2
        have hr3 : D ∉ S3.r := fun hm => by
          rcases x3.new D hm with q | q
          · exact hr2 q
          · rw [hD2] at q; cases q
        refine ⟨S3, _, rfl, ok3, er3, ?_⟩
        rw [e3]
        cases ec : fc (setE (wipeE env vs) bs) S2.st with
        | bad => rw [ec] at hl2; cases hl2
        | ex c fs st => rw [ec] at hl2; cases hl2
        | ok dc st3 =>
          rw [ec] at hl2
          try dsimp only at hl2
          cases dc with
          | bl b =>
            refine ⟨b, rfl, fun S4 x4 ok4 e4 => ?_⟩
            subst e4
            have hD4 : S4.H D = some (.lst accV) := x4.keep D _ hD3 hr3
            have hG4 : S4.G D = none := x4.nof D _ hD3 hG3
            have hr4 : D ∉ S4.r := fun hm => by
              rcases x4.new D hm with q | q
              · exact hr3 q
              · rw [hD3] at q; cases q
            have x14 := Ext.trans ok3 x13 x4
            cases b with
            | false =>
              rw [if_neg Bool.false_ne_true]
              exact ⟨S4, accV, acc, rest, rfl, ok4, x14, hD4, hG4, hr4, (ra.ext x3).ext x4, hl2, rfl⟩
            | true =>
              rw [if_pos rfl]
              refine ⟨S4, _, rfl, ok4, er3.ext x4, ?_⟩
              have hl2 : (match fi1 (setE (wipeE env vs) bs) S4.st with
                | .ok ds1 st2 => match lcL t1 fc1 fe (wipeE (setE (wipeE env vs) bs) vs1) ds1 st2 with
                  | .ok ys st3 => (lc2L t fc fi1 t1 fc1 fe vs1 (wipeE env vs) (ds.drop (i + 1)) st3).bind fun zs st4 => .ok (ys ++ zs) st4
                  | _ => .bad
                | _ => .bad) = .ok rest st2 := hl2
              cases ee : fi1 (setE (wipeE env vs) bs) S4.st with
              | bad => rw [ee] at hl2; cases hl2
              | ex c fs st => rw [ee] at hl2; cases hl2
              | ok ds1 st5 =>
                rw [ee] at hl2
                intro J1 S5 x5 ok5 e5 wk5
                subst e5
                try dsimp only at hl2
                cases ei : lcL t1 fc1 fe (wipeE (setE (wipeE env vs) bs) vs1) ds1 S5.st with
                | bad => rw [ei] at hl2; cases hl2
                | ex c fs st => rw [ei] at hl2; cases hl2
                | ok ys1 st6 =>
                  rw [ei] at hl2
                  have hl2 : (lc2L t fc fi1 t1 fc1 fe vs1 (wipeE env vs) (ds.drop (i + 1)) st6).bind (fun zs st4 => .ok (ys1 ++ zs) st4) = .ok rest st2 := hl2
                  cases er' : lc2L t fc fi1 t1 fc1 fe vs1 (wipeE env vs) (ds.drop (i + 1)) st6 with
                  | bad => rw [er'] at hl2; cases hl2
                  | ex c fs st => rw [er'] at hl2; cases hl2
                  | ok rest' st7 =>
                    rw [er'] at hl2
                    cases hl2
                    have hD5 : S5.H D = some (.lst accV) := x5.keep D _ hD4 hr4
                    have hG5 : S5.G D = none := x5.nof D _ hD4 hG4
                    have hr5 : D ∉ S5.r := fun hm => by
                      rcases x5.new D hm with q | q
                      · exact hr4 q
                      · rw [hD4] at q; cases q
                    have x15 := Ext.trans ok4 x14 x5
                    have g35 : Gx S3 S5 := x4.gx.trans x5.gx
                    rw [List.length_append, List.length_append] at hlen
                    refine lc_in hD ok5 x15 hD5 hG5 hr5 (((ra.ext x3).ext x4).ext x5) (fun S' y g ok' => erAt S' y (g35.trans g) ok') hv1 ei wk5 (by omega) fun S6 accV6 x6 g6 ok6 e6 hD6 hG6 hr6 r6 => ?_
                    exact ⟨S6, accV6, acc ++ ys1, rest', rfl, ok6, x6, hD6, hG6, hr6, r6, by rw [e6]; exact er', by rw [List.append_assoc]⟩
          | _ => cases hl2
  · have e : i = ds.length := by omega
    subst e
    refine .inl ⟨wst, ?_⟩
    rw [List.drop_length] at hl2
    cases hl2
    rw [List.append_nil] at hq
    exact hq S2 accV x2 ok2 rfl hD2 hG2 hr2 ra
end
section
variable {X : Cx} {W : WX} {elt tg iter tg1 iter1 e : Expr} {ifs ifs1 : List Expr} {scope : Scope} {own : List (Str × Nat)} {vs1 : List Nat} {pos spos py : Pos} {fi fi1 : EvL} {fc fc1 fe f : Ev} {t t1 : Tg} {i : Nat} {y : Str}
theorem tS_asg {S0 : Sx} {D : Ends} {σ : L2.St} {H : Hp} (q : tS X.K X.mg S0 W (sAsg i f) D σ H) : tAsg (tE X.K X.mg S0 W f) (gName i) D σ H := by
  rw [tS_eq] at q
  obtain ⟨S, env, rfl, ok, er, x, q⟩ := q
  exact ⟨S, env, rfl, ok, er, outS.of ok er x q fun d st z v S' xx ok' es r => z (σ.set i (some v)) S' ok' ⟨Ext.trans ok x xx, xx.gx⟩ es ((er.ext xx).set i r)⟩
theorem tE_lc {S0 : Sx} {σ : L2.St} {H : Hp} {Q : VK} {vs : List Nat} (hv : TgIn t vs) (h : tE X.K X.mg S0 W (sLc t fi fc fe vs) σ H Q) : tLc (iT X.K X.mg S0 W fi) (gT X.K X.mg t) (tT X.K X.mg S0 WF fc) (tE X.K X.mg S0 WF fe) vs σ H Q := by
  obtain ⟨S, env, rfl, ok, er, q⟩ := h
  refine ⟨S, env, rfl, ok, er, q.imp fun ds st q1 J S1 x1 ok1 e1 wk D hD => ?_⟩
  subst e1
  by_cases hm : many ds = true
  · rw [if_pos hm] at q1
    cases hl : lcL t fc fe (wipeE env vs) ds S1.st with
    | bad => rw [hl] at q1; exact q1.elim
    | ex c fs st => exact (lc_noex hl).elim
    | ok ys st2 =>
      rw [hl] at q1
      refine lc_turns ok1 (er.ext x1) hv (of_decide_eq_true hm) hl wk hD fun S2 accV x2 ok2 e2 hD2 hG2 hr2 ra => ?_
      exact q1 (.ref D) (S2.ice D (.lst accV)) (Ext.ice (Ext.trans ok1 x1 x2) ok2 (x1.fresh ok1 hD) hG2) (ok2.ice hD2 hr2) e2 (.lst upd_same (ra.mono (upd_mono hG2) (List.prefix_refl _)))
  · rw [if_neg hm] at q1
    exact q1.elim
theorem tE_lc2 {S0 : Sx} {σ : L2.St} {H : Hp} {Q : VK} {vs : List Nat} (hv : TgIn t vs) (hv1 : TgIn t1 vs1) (h : tE X.K X.mg S0 W (sLc2 t fi fc t1 fi1 fc1 fe vs vs1) σ H Q) : tLc2 (iT X.K X.mg S0 W fi) (gT X.K X.mg t) (tT X.K X.mg S0 WF fc) (iT X.K X.mg S0 WF fi1) (gT X.K X.mg t1) (tT X.K X.mg S0 WF fc1) (tE X.K X.mg S0 WF fe) vs vs1 σ H Q := by
  obtain ⟨S, env, rfl, ok, er, q⟩ := h
  refine ⟨S, env, rfl, ok, er, q.imp fun ds st q1 J S1 x1 ok1 e1 wk D hD => ?_⟩
  subst e1
  cases hl : lc2L t fc fi1 t1 fc1 fe vs1 (wipeE env vs) ds S1.st with
  | bad => rw [hl] at q1; exact q1.elim
  | ex c fs st => rw [hl] at q1; exact q1.elim
  | ok ys st2 =>
    rw [hl] at q1
    dsimp only at q1
    by_cases hm : many ys = true
    · rw [if_pos hm] at q1
      refine lc2_turns ok1 (er.ext x1) hv hv1 (of_decide_eq_true hm) hl wk hD fun S2 accV x2 ok2 e2 hD2 hG2 hr2 ra => ?_
      exact q1 (.ref D) (S2.ice D (.lst accV)) (Ext.ice (Ext.trans ok1 x1 x2) ok2 (x1.fresh ok1 hD) hG2) (ok2.ice hD2 hr2) e2 (.lst upd_same (ra.mono (upd_mono hG2) (List.prefix_refl _)))
    · rw [if_neg hm] at q1
      exact q1.elim
theorem d_lc2 (hc : X.calm = true) (hN : X.N.Nodup) (hi : Di X W tg iter fi) (ok : BlkOk X.N X.env.scope scope own) (hvs : ∀ i ∈ vs1, i ∈ own.map (·.2))
    (hg : ∀ (s : Shared) (H : Hp) (C : Addr) (cl : List (Str × Addr)) (fp : List Addr), Dg (X.blk s H scope (compEnvC scope cl C X.env) fp) tg t) (ht : ∀ (s : Shared) (H : Hp) (C : Addr) (cl : List (Str × Addr)) (fp : List Addr), Dts (X.blk s H scope (compEnvC scope cl C X.env) fp) WF ifs fc)
    (hi1 : ∀ (s : Shared) (H : Hp) (C : Addr) (cl : List (Str × Addr)) (fp : List Addr), Di (X.blk s H scope (compEnvC scope cl C X.env) fp) WF tg1 iter1 fi1)
    (hg1 : ∀ (s : Shared) (H : Hp) (C : Addr) (cl : List (Str × Addr)) (fp : List Addr), Dg (X.blk s H scope (compEnvC scope cl C X.env) fp) tg1 t1) (ht1 : ∀ (s : Shared) (H : Hp) (C : Addr) (cl : List (Str × Addr)) (fp : List Addr), Dts (X.blk s H scope (compEnvC scope cl C X.env) fp) WF ifs1 fc1)
    (he : ∀ (s : Shared) (H : Hp) (C : Addr) (cl : List (Str × Addr)) (fp : List Addr), De (X.blk s H scope (compEnvC scope cl C X.env) fp) WF elt fe) (hv : TgIn t (own.map (·.2))) (hv1 : TgIn t1 vs1) (hs : ∀ x, foldedSetIterable iter X.env x = pure x := by intro _; rfl) (hs1 : ∀ env x, foldedSetIterable iter1 env x = pure x := by intro _ _; rfl) :
    De X W (.ListComp elt [⟨tg, iter, ifs, 0⟩, ⟨tg1, iter1, ifs1, 0⟩] scope pos) (sLc2 t fi fc t1 fi1 fc1 fe (own.map (·.2)) vs1) := fun S0 =>
  peW (pe_lc2 (g := gT X.K X.mg t) (tt := tT X.K X.mg S0 WF fc) (wi1 := iT X.K X.mg S0 WF fi1) (g1 := gT X.K X.mg t1) (tt1 := tT X.K X.mg S0 WF fc1) (te := tE X.K X.mg S0 WF fe) hc hN (hi S0) ok hvs (fun s H C cl fp => hg s H C cl fp) (fun s H C cl fp => ht s H C cl fp S0) (fun s H C cl fp => hi1 s H C cl fp S0) (fun s H C cl fp => hg1 s H C cl fp) (fun s H C cl fp => ht1 s H C cl fp S0) (fun s H C cl fp => he s H C cl fp S0) hs hs1) fun σ H Q q => tE_lc2 hv hv1 q
/-- y = [.. for .. in ..], y a plain local -/
theorem ds_setLc (hc : X.calm = true) (hN : X.N.Nodup) (hy : X.N[i]? = some y) (hyl : X.env.scope.names.lookup y = some .local)
    (hsw : swapsWith (.ListComp elt [⟨tg, iter, ifs, 0⟩] scope pos) (some (.Name y py)) spos.line X.env = pure true) (hi : Di X W tg iter fi) (ok : BlkOk X.N X.env.scope scope own)
    (hg : ∀ (s : Shared) (H : Hp) (C : Addr) (cl : List (Str × Addr)) (fp : List Addr), Dg (X.blk s H scope (compEnvC scope cl C X.env) fp) tg t) (ht : ∀ (s : Shared) (H : Hp) (C : Addr) (cl : List (Str × Addr)) (fp : List Addr), Dts (X.blk s H scope (compEnvC scope cl C X.env) fp) WF ifs fc)
    (he : ∀ (s : Shared) (H : Hp) (C : Addr) (cl : List (Str × Addr)) (fp : List Addr), De (X.blk s H scope (compEnvC scope cl C X.env) fp) WF elt fe) (hv : TgIn t (own.map (·.2))) (hs : ∀ x, foldedSetIterable iter X.env x = pure x := by intro _; rfl) :
    Ds X W (.Assign [.Name y py] (.ListComp elt [⟨tg, iter, ifs, 0⟩] scope pos) spos) (sAsg i (sLc t fi fc fe (own.map (·.2)))) := fun S0 => by
  refine psW (ps_setLc (g := gT X.K X.mg t) (tt := tT X.K X.mg S0 WF fc) (te := tE X.K X.mg S0 WF fe) hc hN hy hyl hsw (hi S0) ok (fun s H C cl fp => hg s H C cl fp) (fun s H C cl fp => ht s H C cl fp S0) (fun s H C cl fp => he s H C cl fp S0) hs) fun D σ H q => ?_
  have q2 := tS_asg q
  exact tE_lc hv q2
theorem ds_setLc2 (hc : X.calm = true) (hN : X.N.Nodup) (hy : X.N[i]? = some y) (hyl : X.env.scope.names.lookup y = some .local)
    (hsw : swapsWith (.ListComp elt [⟨tg, iter, ifs, 0⟩, ⟨tg1, iter1, ifs1, 0⟩] scope pos) (some (.Name y py)) spos.line X.env = pure true) (hi : Di X W tg iter fi) (ok : BlkOk X.N X.env.scope scope own) (hvs : ∀ i ∈ vs1, i ∈ own.map (·.2))
    (hg : ∀ (s : Shared) (H : Hp) (C : Addr) (cl : List (Str × Addr)) (fp : List Addr), Dg (X.blk s H scope (compEnvC scope cl C X.env) fp) tg t) (ht : ∀ (s : Shared) (H : Hp) (C : Addr) (cl : List (Str × Addr)) (fp : List Addr), Dts (X.blk s H scope (compEnvC scope cl C X.env) fp) WF ifs fc)
    (hi1 : ∀ (s : Shared) (H : Hp) (C : Addr) (cl : List (Str × Addr)) (fp : List Addr), Di (X.blk s H scope (compEnvC scope cl C X.env) fp) WF tg1 iter1 fi1)
    (hg1 : ∀ (s : Shared) (H : Hp) (C : Addr) (cl : List (Str × Addr)) (fp : List Addr), Dg (X.blk s H scope (compEnvC scope cl C X.env) fp) tg1 t1) (ht1 : ∀ (s : Shared) (H : Hp) (C : Addr) (cl : List (Str × Addr)) (fp : List Addr), Dts (X.blk s H scope (compEnvC scope cl C X.env) fp) WF ifs1 fc1)
    (he : ∀ (s : Shared) (H : Hp) (C : Addr) (cl : List (Str × Addr)) (fp : List Addr), De (X.blk s H scope (compEnvC scope cl C X.env) fp) WF elt fe) (hv : TgIn t (own.map (·.2))) (hv1 : TgIn t1 vs1) (hs : ∀ x, foldedSetIterable iter X.env x = pure x := by intro _; rfl) (hs1 : ∀ env x, foldedSetIterable iter1 env x = pure x := by intro _ _; rfl) :
    Ds X W (.Assign [.Name y py] (.ListComp elt [⟨tg, iter, ifs, 0⟩, ⟨tg1, iter1, ifs1, 0⟩] scope pos) spos) (sAsg i (sLc2 t fi fc t1 fi1 fc1 fe (own.map (·.2)) vs1)) := fun S0 => by
  refine psW (ps_setLc2 (g := gT X.K X.mg t) (tt := tT X.K X.mg S0 WF fc) (wi1 := iT X.K X.mg S0 WF fi1) (g1 := gT X.K X.mg t1) (tt1 := tT X.K X.mg S0 WF fc1) (te := tE X.K X.mg S0 WF fe) hc hN hy hyl hsw (hi S0) ok hvs (fun s H C cl fp => hg s H C cl fp) (fun s H C cl fp => ht s H C cl fp S0) (fun s H C cl fp => hi1 s H C cl fp S0) (fun s H C cl fp => hg1 s H C cl fp) (fun s H C cl fp => ht1 s H C cl fp S0) (fun s H C cl fp => he s H C cl fp S0) hs hs1) fun D σ H q => ?_
  exact tE_lc2 hv hv1 (tS_asg q)
end
end GI
set_option Elab.async false
set_option linter.all false
set_option maxRecDepth 100000
set_option maxHeartbeats 2000000
namespace GI
open PySem PySem.Spec PyProof.Rows L2
open HT
section
variable {prog : Program} {w : World} {A : Around} {E : Value → Shared → Prop} {s : Shared}
theorem fm_map {α β : Type} {f : α → Option β} {g : α → β} : ∀ {l : List α}, (∀ x ∈ l, f x = some (g x)) → l.filterMap f = l.map g
  | [], _ => rfl
  | x :: l, h => by
    rw [List.filterMap_cons, h x (by simp), List.map_cons, fm_map fun y hy => h y (List.mem_cons_of_mem _ hy)]
theorem rev_pick (xs : Array Value) : ((List.range xs.size).filterMap fun (m : Nat) => xs[(((xs.size : Int) - 1) + (m : Int) * (-1)).toNat]?).toArray = xs.toList.reverse.toArray := by
  congr 1
  apply List.ext_getElem?
  intro i
  have e : (List.range xs.size).filterMap (fun (m : Nat) => xs[(((xs.size : Int) - 1) + (m : Int) * (-1)).toNat]?) = (List.range xs.size).map fun m => (xs.toList.reverse)[m]?.getD .none := by
    refine fm_map fun m hm => ?_
    have hm := List.mem_range.mp hm
    have e1 : (((xs.size : Int) - 1) + (m : Int) * (-1)).toNat = xs.size - 1 - m := by omega
    rw [e1]
    have h2 : xs.size - 1 - m < xs.size := by omega
    rw [Array.getElem?_eq_getElem h2, List.getElem?_reverse (by simpa using hm)]
    simp [h2]
  rw [e, List.getElem?_map]
  by_cases hi : i < xs.size
  · rw [List.getElem?_range hi]
    simp only [Option.map_some]
    rw [List.getElem?_eq_getElem (by simpa using hi)]
    rfl
  · rw [List.getElem?_eq_none (by simpa using hi), List.getElem?_eq_none (by simpa using hi)]
    rfl
theorem getItem_tuple_rev {t sl : Addr} {items : Array Value} {vl vu vs : Value} {Q : Value → Shared → Prop} (ht : IsTup s.heap t items) (hs : s.heap.IsSliceOf sl vl vu vs) (pl : IsPart vl none) (pu : IsPart vu none) (pst : IsPart vs (some (-1)))
    (h : Q (.ref s.heap.objs.size) { s with heap := s.heap.push { cls := .type "tuple", data := .seq items.toList.reverse.toArray } }) (hsz : items.size ≤ sizeLine) : wpAny (model prog w) A (getItem (.ref t) (.ref sl)) Q E s := by
  have htake : sizeOk (.seq items.toList.reverse.toArray) := by
    show items.toList.reverse.toArray.size ≤ sizeLine
    rw [List.size_toArray, List.length_reverse, Array.length_toList]
    exact hsz
  obtain ⟨os, hos, hcs, hds⟩ := id hs
  have hTs : s.TypeIs (.ref sl) "slice" := ⟨os, hos, hcs⟩
  unfold getItem
  try with_reducible refine wpAny_holding ?_
  first | refine wpAny_bind (wpAny_pure ?_) | skip
  refine wpAny_bind (wpAny_sequenceKey ht.typeIs (by decide) ?_)
  refine wpAny_bind (wpAny_callSpecial?_slot (name := Str.ofString "__getitem__") ht.typeIs PyProof.Rows.slot_tuple_getitem
    (wpAny_call_entry PyProof.Rows.slot_tuple_getitem ht.typeIs entry_tuple_getitem ?_ (args_tuple_getitem _ _)))
  show wpAny _ _ (Builtin.Tuple.tupleItemsOf (.ref t) >>= _) _ _ s
  refine wpAny_bind (tupleItemsOf_ ht ?_)
  refine wpAny_bind (wpAny_typeOf hTs ?_)
  rw [if_pos (by decide)]
  have ap : ∀ {A' : Around} {E' : Value → Shared → Prop} {Q' : Int × Int × Nat → Shared → Prop}, Q' ((items.size : Int) - 1, -1, items.size) s → wpAny (model prog w) A' (Builtin.Slice.sliceApplied (.ref sl) (pure (items.size : Int))) Q' E' s := by
    intro A' E' Q' q
    unfold Builtin.Slice.sliceApplied Builtin.Slice.sliceFields
    refine wpAny_bind (wpAny_bind (wpAny_field hos hds (x := vl) rfl (wpAny_bind (wpAny_field hos hds (x := vu) rfl (wpAny_bind (wpAny_field hos hds (x := vs) rfl (wpAny_pure ?_)))))))
    refine wpAny_bind (slicePart_ pst ?_)
    show wpAny _ _ (if ((-1 : Int) == 0) = true then _ else _) _ _ s
    rw [if_neg (by decide)]
    refine wpAny_bind (slicePart_ pl (wpAny_bind (slicePart_ pu (wpAny_bind (wpAny_pure ?_)))))
    show wpAny _ _ (pure (((items.size : Int) - 1), (-1 : Int), Builtin.Slice.slicePlaces ((items.size : Int) - 1) (-1) (-1))) _ _ s
    have e : Builtin.Slice.slicePlaces ((items.size : Int) - 1) (-1) (-1) = items.size := by
      unfold Builtin.Slice.slicePlaces
      rw [if_neg (by decide)]
      by_cases z : items.size = 0
      · rw [z]; decide
      · rw [if_pos (by omega)]
        have : (((items.size : Int) - 1 - -1 - 1) / (- -1) + 1) = items.size := by
          rw [show ((items.size : Int) - 1 - -1 - 1) = items.size - 1 from by omega, show (- (-1 : Int)) = 1 from rfl, Int.ediv_one]
          omega
        rw [this]
        rfl
    rw [e]
    exact wpAny_pure q
  refine wpAny_bind (ap ?_)
  have hno : ¬ ((((items.size : Int) - 1 == 0) && ((-1 : Int) == 1) && (items.size == items.size)) = true) := by
    rw [show ((-1 : Int) == 1) = false from rfl, Bool.and_false, Bool.false_and]
    exact Bool.false_ne_true
  show wpAny _ _ (if (((items.size : Int) - 1 == 0) && ((-1 : Int) == 1) && (items.size == items.size)) = true then _ else _) _ _ s
  rw [if_neg hno, rev_pick]
  first
    | exact wpAny_bind (m := Builtin.Tuple.tupleExact _) (wpAny_newObj_type (wpAny_pure ⟨_, rfl, wpAny_pure h⟩) htake)
    | exact wpAny_bind (m := Builtin.Tuple.tupleExact _) (wpAny_newObj_type (wpAny_bind (wpAny_pure (wpAny_pure ⟨_, rfl, wpAny_pure h⟩))) htake)
    | exact wpAny_bind (wpAny_bind (m := Builtin.Tuple.tupleExact _) (wpAny_newObj_type (wpAny_pure (wpAny_pure ⟨_, rfl, wpAny_pure h⟩)) htake))
    | exact wpAny_bind (wpAny_bind (m := Builtin.Tuple.tupleExact _) (wpAny_newObj_type (wpAny_pure ⟨_, rfl, wpAny_pure h⟩) htake))
end
def tRevA (K : PySem.W.Frag) (te : TE) : TE := fun σ H Q => te σ H fun x H1 => ∃ a xs, x = .ref a ∧ ((SqL K H1 a xs ∧ ∀ p, H1 p = none → Q (.ref p) (upd H1 p (.lst xs.reverse))) ∨ (SqT K H1 a xs ∧ ∀ p, H1 p = none → Q (.ref p) (upd H1 p (.tup xs.reverse))))
section
variable {X : Cx} {W : WX}
theorem pe_revA {e : Expr} {te : TE} {k : Nat} {p1 p2 p3 pos : Pos} (he : PE X e te) : PE X (.Subscript e (.Slice none none (some (.UnaryOp .USub (.Constant (.int 1) k p1) p2)) p3) pos) (tRevA X.K te) := by
  refine ⟨fun pins s σ H Q I h => ?_⟩
  refine Subscript_ (thn (he.run pins s σ H _ I h) fun v s1 ⟨x, H1, I1, r1, q1⟩ => ?_)
  obtain ⟨a, xs, ex, hx⟩ := q1
  subst ex
  cases r1
  have hst : PO X (some (.UnaryOp .USub (.Constant (.int 1) k p1) p2)) (tPart (tUn (rU fun i => .int (-i)) (tC (.int 1)))) := po_some (pe_un un_neg pe_int)
  refine wpAny_Slice (thn (po_none.run pins s1 σ H1 (fun o H2 => o = none ∧ H2 = H1) I1 ⟨rfl, rfl⟩) fun vl s2 ⟨l, H2, I2, pl, el, e2⟩ => ?_)
  subst el e2
  refine thn (po_none.run pins s2 σ H2 (fun o H3 => o = none ∧ H3 = H2) I2 ⟨rfl, rfl⟩) fun vu s3 ⟨u, H3, I3, pu, eu, e3⟩ => ?_
  subst eu e3
  refine thn (hst.run pins s3 σ H3 (fun o H4 => o = some (-1) ∧ H4 = H3) I3 ⟨1, rfl, -1, rfl, rfl, rfl⟩) fun vs s4 ⟨o, H4, I4, ps, eo, e4⟩ => ?_
  subst eo e4
  have I5 : Inv X pins σ H4 { s4 with heap := s4.heap.push { cls := .type "slice", data := .fields #[vl, vu, vs] } } := I4.kept (t' := s4.toks) fun b ob q => Heap.get?_push_of_some _ q
  show wpAny (model X.prog X.w) X.A (subscriptTail e (.Slice none none (some (.UnaryOp .USub (.Constant (.int 1) k p1) p2)) p3) (.ref a) (.ref s4.heap.objs.size)) (EP X pins σ Q) X.xe { s4 with heap := s4.heap.push { cls := .type "slice", data := .fields #[vl, vu, vs] } }
  rcases hx with ⟨hx, q⟩ | ⟨hx, q⟩
  · obtain ⟨its, r, ht, hz⟩ := I5.list hx
    have hlen := r.length
    refine tail_any (ops := [.ref a, .ref s4.heap.objs.size]) ht.isList.typeIs (PySem.slot_list_getitem.lookup) ?_ (by with_unfolding_all rfl)
    refine wpAny_getItem_list_slice ht.isList (Heap.IsSliceOf.new _ vl vu vs) pl pu ps (by decide) ?_ (by rw [List.size_toArray]; omega)
    rw [PySem.W.krv_pick]
    refine ⟨.ref _, _, I5.laid (t' := s4.toks) (o := .lst xs.reverse) (fun b ob q => Heap.get?_push_of_some _ q) (Nat.le_refl _) ?_, rfl, q _ (I5.hok.fresh (Nat.le_refl _))⟩
    exact ⟨by rw [List.length_reverse]; exact hz, _, 0, r.reverse, Heap.get?_push_size _ rfl⟩
  · obtain ⟨its, r, ht, hz⟩ := I5.tuple hx
    have hlen := r.length
    refine tail_any (ops := [.ref a, .ref s4.heap.objs.size]) ht.typeIs (PyProof.Rows.slot_tuple_getitem.lookup) ?_ (by with_unfolding_all rfl)
    refine getItem_tuple_rev ht (Heap.IsSliceOf.new _ vl vu vs) pl pu ps ?_ (by rw [List.size_toArray]; omega)
    refine ⟨.ref _, _, I5.laid (t' := s4.toks) (o := .tup xs.reverse) (fun b ob q => Heap.get?_push_of_some _ q) (Nat.le_refl _) ?_, rfl, q _ (I5.hok.fresh (Nat.le_refl _))⟩
    exact ⟨by rw [List.length_reverse]; exact hz, _, r.reverse, _, Heap.get?_push_size _ rfl, rfl, 0, rfl⟩
def dRev : Dat → Option Dat
  | .tup ds => some (.tup ds.reverse)
  | .lst ds => some (.lst ds.reverse)
  | _ => none
theorem d_rev {e : Expr} {fe : Ev} {k : Nat} {p1 p2 p3 pos : Pos} (he : De X W e fe) : De X W (.Subscript e (.Slice none none (some (.UnaryOp .USub (.Constant (.int 1) k p1) p2)) p3) pos) (s1 dRev fe) := fun S0 => by
  refine peW (pe_revA (he S0)) fun σ H Q q => ?_
  obtain ⟨S, env, rfl, ok, er, q⟩ := q
  refine ⟨S, env, rfl, ok, er, q.imp fun d st q1 v S1 x1 ok1 e1 r1 => ?_⟩
  subst e1
  cases d with
  | tup ds =>
    cases r1 with
    | tup hs rl =>
      exact ⟨_, _, rfl, .inr ⟨sqT_H ok1 hs, fun p hp => q1 (.ref p) (S1.put p (.tup _)) (Ext.trans ok1 x1 (Ext.put ok1 hp _)) (ok1.put hp _) rfl (.tup (.inl (.inl upd_same)) (rl.reverse.mono (upd_mono (ok1.noG hp)) (List.prefix_refl _)))⟩⟩
  | lst ds =>
    cases r1 with
    | lst hs rl =>
      exact ⟨_, _, rfl, .inl ⟨.inl (.inl (ok1.sub _ _ hs)), fun p hp => q1 (.ref p) (S1.put p (.lst _)) (Ext.trans ok1 x1 (Ext.put ok1 hp _)) (ok1.put hp _) rfl (.lst upd_same (rl.reverse.mono (upd_mono (ok1.noG hp)) (List.prefix_refl _)))⟩⟩
  | _ => exact (show False from q1).elim
end
end GI
set_option Elab.async false
set_option linter.all false
set_option maxRecDepth 100000
set_option maxHeartbeats 2000000
namespace GI
open PySem PySem.Spec PyProof.Rows L2 SlX
def clsS (s : Stmt) (j : Nat) : Stmt := match s with
  | .ClassDef _ _ _ b _ _ _ _ _ _ _ => b.getD j (.Pass ⟨0, 0, 0, 0⟩)
  | _ => .Pass ⟨0, 0, 0, 0⟩
section
variable {X : Cx} {W : WX} {e o : Expr} {es : List Expr} {kws : List Keyword} {fa : Ev} {fl fk : EvL} {p pos : Pos} {F : Fn} {n k np : Nat} {f C : Addr} {fd : FuncData} {ps ks : List Str} {x : Str}
/-- every parameter is written, the keyword-only ones by name -/
theorem gd_full {K : PySem.W.Frag} {mg : Str → Option Value} {n m : Nat} : GD K mg n m (n + m) (fun vs zs => vs ++ zs) (fun ds es => ds ++ es) := ⟨fun S x vs zs ds es r1 r2 l1 l2 => ⟨vs ++ zs, rfl, by rw [List.length_append, l1, l2], r1.append r2⟩⟩
theorem d_makeE {gV : List V → List V → List V} {gD : List Dat → List Dat → List Dat} (M : Mk X.K C f) (G : FnG X.prog X.w X.K X.mg X.base (L2.CX X.prog X.w) k f fd ps (spI X.K X.mg x np F)) (hG : X.A.guards = some []) (hr : Room (k + 1) X.A) (hg : Gl X x) (hm : X.mg x = some (.ref C)) (hb : ∃ gs, KBn X.K fd ps (n + 1) ks gs gV) (hD : GD X.K X.mg n ks.length np gV gD) (tk : Takes X W)
    (ha : Des X W (e :: es) fl) (hkw : Dks X W kws fk) (hall : (backToKw pos (keywordEach kws X.env)).all (·.1.isSome) = true := by rfl) (hks : (backToKw pos (keywordEach kws X.env)).filterMap (·.1) = ks := by rfl)
    (hdb : (x == ("__debug__" : Str)) = false := by decide) (he : starEach (e :: es) X.env = (false, eval e X.env) :: starEach es X.env := by rfl)
    (hpl : ((backTo pos (starEach (e :: es) X.env)).any (·.1) || (backToKw pos (keywordEach kws X.env)).any (·.1.isNone)) = false := by rfl) :
    De X W (.Call (.Name x p) (e :: es) kws pos) (sMake n ks.length F gD fl fk) := by
  obtain ⟨gs, hb⟩ := hb
  exact d_make M G hG hr hg hm hb hD tk ha hkw hall hks hdb he hpl
end
end GI
set_option Elab.async false
set_option linter.all false
set_option maxRecDepth 100000
set_option maxHeartbeats 4000000
namespace LW
open PySem PySem.Spec PyProof.Rows L2 GI
def FUEL : Nat := 100000
def b_l_begun_den : Exe := sSeq (sAsg 1 (sC (.int 17))) (sSeq (sFor (tgTup (tgCons (tgName 2) (tgCons (tgName 3) (tgNil)))) (iL dEnum (sCons (sSl (sVar 0) none (some (sC (.int 63)))) (sNil))) (sAsg 1 (s2 dMod (sB dInt (sCons (s2 dMulI (s2 dAdd (s2 dAdd (s2 dAdd (sVar 1) (s2 dMod (sB dInt (sCons (sVar 3) (sNil))) (sC (.int 1000000007)))) (s2 dMulI (sC (.int 31)) (sVar 2))) (sC (.int 7))) (sC (.int 48271))) (sNil))) (sC (.int 2147483647))))) (sRet (sDict ["great", "seed", "at"] (sCons (sLc (tgName 3) (iSeq (sVar 0)) (s2 dGe (sVar 3) (s2 dPow (sC (.int 10)) (sC (.int 18)))) (sVar 3) [3]) (sCons (sVar 1) (sCons (sC (.int 0)) (sNil)))))))
def F_l_begun : Fn := fnF 4 b_l_begun_den
def b_l_draw_den : Exe := sSeq (sWhile (sAnd (s2 dNe (sGet (sVar 0) "great") (sLst (sNil))) (s2 dEq (s2 dIx (sGet (sVar 0) "great") (sC (.int 0))) (sC (.int 0)))) (sPut (sVar 0) "great" (sSl (sGet (sVar 0) "great") (some (sC (.int 1))) none)) FUEL) (sSeq (sIf (s2 dNe (sGet (sVar 0) "great") (sLst (sNil))) (sSeq (sAsg 4 (s2 dIx (sGet (sVar 0) "great") (sC (.int 0)))) (sSeq (sPut (sVar 0) "great" (s2 dAdd (sLst (sCons (s2 dFdiv (sVar 4) (sVar 1)) (sNil))) (sSl (sGet (sVar 0) "great") (some (sC (.int 1))) none))) (sRet (s2 dMod (sB dInt (sCons (sVar 4) (sNil))) (sVar 1))))) (sSkip)) (sSeq (sAsg 2 (s2 dAdd (sGet (sVar 0) "at") (sC (.int 1)))) (sSeq (sPut (sVar 0) "at" (sVar 2)) (sSeq (sAsg 3 (s2 dMod (sB dInt (sCons (s2 dMulI (s2 dAdd (s2 dAdd (sGet (sVar 0) "seed") (s2 dMulI (sC (.int 7919)) (sVar 2))) (s2 dMulI (s2 dMulI (sC (.int 104729)) (sVar 2)) (sVar 2))) (sC (.int 69621))) (sNil))) (sC (.int 2147483629)))) (sRet (s2 dMod (sB dInt (sCons (s2 dFdiv (s2 dMod (sB dInt (sCons (s2 dAdd (s2 dMulI (sVar 3) (sC (.int 48271))) (s2 dMulI (sC (.int 31)) (sVar 2))) (sNil))) (sC (.int 2147483587))) (sC (.int 11))) (sNil))) (sVar 1)))))))
def F_l_draw : Fn := fnF 5 b_l_draw_den
def b_l_wide_den : Exe := sRet (s2 dAdd (sVar 1) (s2 dMod (sB dInt (sCons (s2 dAdd (s2 dMulI (sCall 2 F_l_draw (sCons (sVar 0) (sCons (s2 dPow (sC (.int 10)) (sC (.int 6))) (sNil)))) (s2 dPow (sC (.int 10)) (sC (.int 6)))) (sCall 2 F_l_draw (sCons (sVar 0) (sCons (s2 dPow (sC (.int 10)) (sC (.int 6))) (sNil))))) (sNil))) (s2 dAdd (s2 dSub (sVar 2) (sVar 1)) (sC (.int 1)))))
def F_l_wide : Fn := fnF 3 b_l_wide_den
def b_l_stamps_den : Exe := sSeq (sIf (s2 dEq (sVar 2) (sC (.int 0))) (sRet (sB dTuple (sCons (sB dSortI (sCons (sLc (tgName 4) (iL dRange1 (sCons (sVar 1) (sNil))) (sC (.bl true)) (sCall 2 F_l_draw (sCons (sVar 0) (sCons (sC (.int 13)) (sNil)))) [4]) (sNil))) (sNil)))) (sSkip)) (sSeq (sIf (s2 dEq (sVar 2) (sC (.int 1))) (sRet (sB dTuple (sCons (sB dSortI (sCons (sLc (tgName 4) (iL dRange1 (sCons (sVar 1) (sNil))) (sC (.bl true)) (s2 dSub (s2 dAdd (s2 dMulI (sCall 2 F_l_draw (sCons (sVar 0) (sCons (sC (.int 3)) (sNil)))) (sC (.int 20))) (sCall 2 F_l_draw (sCons (sVar 0) (sCons (sC (.int 6)) (sNil))))) (sC (.int 30))) [4]) (sNil))) (sNil)))) (sSkip)) (sSeq (sIf (s2 dEq (sVar 2) (sC (.int 2))) (sRet (sB dTuple (sCons (sB dSortI (sCons (sLc (tgName 4) (iL dRange1 (sCons (sVar 1) (sNil))) (sC (.bl true)) (sCall 3 F_l_wide (sCons (sVar 0) (sCons (s2 dSub (sC (.int 0)) (s2 dPow (sC (.int 10)) (sC (.int 9)))) (sCons (s2 dPow (sC (.int 10)) (sC (.int 9))) (sNil))))) [4]) (sNil))) (sNil)))) (sSkip)) (sSeq (sAsg 3 (sCall 3 F_l_wide (sCons (sVar 0) (sCons (s2 dSub (sC (.int 0)) (s2 dMulI (sC (.int 9)) (s2 dPow (sC (.int 10)) (sC (.int 8))))) (sCons (s2 dMulI (sC (.int 9)) (s2 dPow (sC (.int 10)) (sC (.int 8)))) (sNil)))))) (sRet (sB dTuple (sCons (sB dSortI (sCons (sLc (tgName 4) (iL dRange1 (sCons (sVar 1) (sNil))) (sC (.bl true)) (s2 dAdd (sVar 3) (sCall 2 F_l_draw (sCons (sVar 0) (sCons (sC (.int 40)) (sNil))))) [4]) (sNil))) (sNil)))))))
def F_l_stamps : Fn := fnF 5 b_l_stamps_den
def b_l_cameras_den : Exe := sSeq (sPar [5, 6] (slOw (fun env st => ((sNil) env st).bind fun ds st1 => if few ds then .ok ds st1 else .bad) (slSh (sVar 2) (slNil)))) (sSeq (sFor (tgName 4) (iL dRange1 (sCons (s2 dAdd (sC (.int 1)) (sCall 2 F_l_draw (sCons (sVar 0) (sCons (sVar 1) (sNil))))) (sNil))) (sSeq (sAsg 7 (sCall 2 F_l_draw (sCons (sVar 0) (sCons (s2 dAdd (s2 dIx (sLst (sCons (sB dMin2 (sCons (sVar 6) (sCons (sC (.int 5)) (sNil)))) (sCons (sVar 6) (sNil)))) (s2 dFdiv (sCall 2 F_l_draw (sCons (sVar 0) (sCons (sC (.int 3)) (sNil)))) (sC (.int 2)))) (sC (.int 1))) (sNil))))) (sSeq (sApp 5 (sCall 3 F_l_stamps (sCons (sVar 0) (sCons (sVar 7) (sCons (sVar 3) (sNil)))))) (sAsg 6 (s2 dSub (sVar 6) (sVar 7)))))) (sRel 5 (sRet (sB dTuple (sCons (sVar 5) (sNil))))))
def F_l_cameras : Fn := fnF 8 b_l_cameras_den
def b_l_shots_den : Exe := sSeq (sAsg 1 (sLst (sNil))) (sSeq (sFor (tgTup (tgCons (tgName 2) (tgCons (tgName 3) (tgNil)))) (iL dEnum (sCons (sVar 0) (sNil))) (sAsg 1 (s2 dAdd (sVar 1) (sLc (tgName 4) (iL dRange1 (sCons (sB dLen (sCons (sVar 3) (sNil))) (sNil))) (sC (.bl true)) (sTup (sCons (sVar 2) (sCons (sVar 4) (sNil)))) [4])))) (sRet (sVar 1)))
def F_l_shots : Fn := fnF 5 b_l_shots_den
def b_l_far_den : Exe := sSeq (sAsg 1 (sCall 4 F_l_cameras (sCons (sVar 0) (sCons (sC (.int 3)) (sCons (sC (.int 12)) (sCons (sCall 2 F_l_draw (sCons (sVar 0) (sCons (sC (.int 4)) (sNil)))) (sNil))))))) (sSeq (sPar [4, 5, 6] (slOw (fun env st => ((sNil) env st).bind fun ds st1 => if few ds then .ok ds st1 else .bad) (slOw (fun env st => ((sNil) env st).bind fun ds st1 => if few ds then .ok ds st1 else .bad) (slSh (sCall 1 F_l_shots (sCons (sVar 1) (sNil))) (slNil))))) (sSeq (sFor (tgName 2) (iSeq (sVar 1)) (sSeq (sAsg 7 (sB dSortI (sCons (sLst (sCons (sCall 3 F_l_wide (sCons (sVar 0) (sCons (s2 dSub (sC (.int 0)) (s2 dPow (sC (.int 10)) (sC (.int 9)))) (sCons (s2 dPow (sC (.int 10)) (sC (.int 9))) (sNil))))) (sCons (s2 dSub (s2 dMulI (s2 dMulI (sCall 2 F_l_draw (sCons (sVar 0) (sCons (sC (.int 9)) (sNil)))) (sC (.int 25))) (s2 dPow (sC (.int 10)) (sC (.int 7)))) (s2 dPow (sC (.int 10)) (sC (.int 9)))) (sNil)))) (sNil)))) (sApp 4 (s2 dIx (sLst (sCons (sTup (sCons (sC (.int 0)) (sCons (sC (.int 0)) (sNil)))) (sCons (sTup (sCons (s2 dIx (sVar 7) (sC (.int 0))) (sCons (s2 dIx (sVar 7) (sC (.int 1))) (sNil)))) (sNil)))) (sCall 2 F_l_draw (sCons (sVar 0) (sCons (sC (.int 2)) (sNil)))))))) (sSeq (sFor (tgName 3) (iL dRange1 (sCons (sIte (s2 dNe (sVar 6) (sLst (sNil))) (s2 dIx (sLst (sCons (sC (.int 0)) (sCons (sC (.int 1)) (sCons (sC (.int 3)) (sCons (sC (.int 12)) (sNil)))))) (sCall 2 F_l_draw (sCons (sVar 0) (sCons (sC (.int 4)) (sNil))))) (sC (.int 0))) (sNil))) (sSeq (sAsg 7 (sB dSortI (sCons (sLst (sCons (sCall 3 F_l_wide (sCons (sVar 0) (sCons (s2 dSub (sC (.int 0)) (s2 dPow (sC (.int 10)) (sC (.int 10)))) (sCons (s2 dPow (sC (.int 10)) (sC (.int 10))) (sNil))))) (sCons (s2 dSub (s2 dMulI (s2 dMulI (sCall 2 F_l_draw (sCons (sVar 0) (sCons (sC (.int 5)) (sNil)))) (sC (.int 5))) (s2 dPow (sC (.int 10)) (sC (.int 9)))) (s2 dPow (sC (.int 10)) (sC (.int 10)))) (sNil)))) (sNil)))) (sApp 5 (sTup (sCons (s2 dIx (sVar 6) (sCall 2 F_l_draw (sCons (sVar 0) (sCons (sB dLen (sCons (sVar 6) (sNil))) (sNil))))) (sCons (s2 dIx (sVar 6) (sCall 2 F_l_draw (sCons (sVar 0) (sCons (sB dLen (sCons (sVar 6) (sNil))) (sNil))))) (sCons (s2 dIx (sVar 7) (sC (.int 0))) (sCons (s2 dIx (sVar 7) (sC (.int 1))) (sNil))))))))) (sRel 5 (sRel 4 (sRet (sTup (sCons (sVar 1) (sCons (sB dTuple (sCons (sVar 4) (sNil))) (sCons (sB dTuple (sCons (sVar 5) (sNil))) (sCons (s2 dIx (sLst (sCons (s2 dAdd (sC (.int 1)) (sCall 2 F_l_draw (sCons (sVar 0) (sCons (sC (.int 60)) (sNil))))) (sCons (sCall 3 F_l_wide (sCons (sVar 0) (sCons (sC (.int 1)) (sCons (s2 dPow (sC (.int 10)) (sC (.int 10))) (sNil))))) (sNil)))) (sCall 2 F_l_draw (sCons (sVar 0) (sCons (sC (.int 2)) (sNil))))) (sNil))))))))))))
def F_l_far : Fn := fnF 8 b_l_far_den
def b_p_is_whole_den : Exe := sRet (sAnd (sIsi "int" (sVar 0)) (sAnd (s1 dNot (sIsi "bool" (sVar 0))) (sChain dLe dLe (sVar 1) (sVar 0) (sVar 2))))
def F_p_is_whole : Fn := fnF 3 b_p_is_whole_den
def b_p_need_cameras_den : Exe := sSeq (sIf (sOr (s1 dNot (sIsi "tuple" (sVar 0))) (s1 dNot (sChain dLe dLe (sC (.int 1)) (sB dLen (sCons (sVar 0) (sNil))) (sC (.int 3))))) (sBad) (sSkip)) (sSeq (sFor (tgTup (tgCons (tgName 1) (tgCons (tgName 2) (tgNil)))) (iL dEnum (sCons (sVar 0) (sNil))) (sIf (s1 dNot (sIsi "tuple" (sVar 2))) (sBad) (sSkip))) (sSeq (sFor (tgTup (tgCons (tgName 1) (tgCons (tgName 2) (tgNil)))) (iL dEnum (sCons (sVar 0) (sNil))) (sFor (tgTup (tgCons (tgName 3) (tgCons (tgName 4) (tgNil)))) (iL dEnum (sCons (sVar 2) (sNil))) (sIf (sOr (s1 dNot (sCall 3 F_p_is_whole (sCons (sVar 4) (sCons (s1 dNeg (sC (.int 1000000000))) (sCons (sC (.int 1000000000)) (sNil)))))) (sAnd (s2 dGt (sVar 3) (sC (.int 0))) (s2 dLt (sVar 4) (s2 dIx (sVar 2) (s2 dSub (sVar 3) (sC (.int 1))))))) (sBad) (sSkip)))) (sIf (s2 dGt (sB dSum (sCons (sLc (tgName 2) (iSeq (sVar 0)) (sC (.bl true)) (sB dLen (sCons (sVar 2) (sNil))) [2]) (sNil))) (sC (.int 12))) (sBad) (sSkip))))
def F_p_need_cameras : Fn := fnF 5 b_p_need_cameras_den
def b_p_is_pair_den : Exe := sRet (sAnd (sIsi "tuple" (sVar 0)) (s2 dEq (sB dLen (sCons (sVar 0) (sNil))) (sC (.int 2))))
def F_p_is_pair : Fn := fnF 1 b_p_is_pair_den
def b_p_are_bounds_den : Exe := sRet (sAnd (sCall 1 F_p_is_pair (sCons (sVar 0) (sNil))) (sAnd (sB dAll (sCons (sLc (tgName 1) (iSeq (sVar 0)) (sC (.bl true)) (sCall 3 F_p_is_whole (sCons (sVar 1) (sCons (s1 dNeg (sC (.int 1000000000))) (sCons (sC (.int 1000000000)) (sNil))))) [1]) (sNil))) (s2 dLe (s2 dIx (sVar 0) (sC (.int 0))) (s2 dIx (sVar 0) (sC (.int 1))))))
def F_p_are_bounds : Fn := fnF 2 b_p_are_bounds_den
def b_p_is_camera_den : Exe := sRet (sCall 3 F_p_is_whole (sCons (sVar 1) (sCons (sC (.int 0)) (sCons (s2 dSub (sB dLen (sCons (sVar 0) (sNil))) (sC (.int 1))) (sNil)))))
def F_p_is_camera : Fn := fnF 2 b_p_is_camera_den
def b_p_is_shot_den : Exe := sRet (sAnd (sCall 1 F_p_is_pair (sCons (sVar 1) (sNil))) (sAnd (sCall 2 F_p_is_camera (sCons (sVar 0) (sCons (s2 dIx (sVar 1) (sC (.int 0))) (sNil)))) (sCall 3 F_p_is_whole (sCons (s2 dIx (sVar 1) (sC (.int 1))) (sCons (sC (.int 0)) (sCons (s2 dSub (sB dLen (sCons (s2 dIx (sVar 0) (s2 dIx (sVar 1) (sC (.int 0)))) (sNil))) (sC (.int 1))) (sNil)))))))
def F_p_is_shot : Fn := fnF 2 b_p_is_shot_den
def b_p_is_tie_den : Exe := sSeq (sIf (sOr (s1 dNot (sIsi "tuple" (sVar 1))) (sOr (s2 dNe (sB dLen (sCons (sVar 1) (sNil))) (sC (.int 4))) (s1 dNot (sB dAll (sCons (sLc (tgName 3) (iSeq (sSl (sVar 1) none (some (sC (.int 2))))) (sC (.bl true)) (sCall 2 F_p_is_shot (sCons (sVar 0) (sCons (sVar 3) (sNil)))) [3]) (sNil)))))) (sRet (sC (.bl false))) (sSkip)) (sRet (sAnd (sB dAll (sCons (sLc (tgName 2) (iSeq (sSl (sVar 1) (some (sC (.int 2))) none)) (sC (.bl true)) (sCall 3 F_p_is_whole (sCons (sVar 2) (sCons (s1 dNeg (sC (.int 10000000000))) (sCons (sC (.int 10000000000)) (sNil))))) [2]) (sNil))) (s2 dLe (s2 dIx (sVar 1) (sC (.int 2))) (s2 dIx (sVar 1) (sC (.int 3))))))
def F_p_is_tie : Fn := fnF 4 b_p_is_tie_den
def b_p_need_rest_den : Exe := sSeq (sIf (sOr (s1 dNot (sIsi "tuple" (sVar 1))) (s2 dNe (sB dLen (sCons (sVar 1) (sNil))) (sB dLen (sCons (sVar 0) (sNil))))) (sBad) (sSkip)) (sSeq (sFor (tgTup (tgCons (tgName 4) (tgCons (tgName 5) (tgNil)))) (iL dEnum (sCons (sVar 1) (sNil))) (sIf (s1 dNot (sCall 1 F_p_are_bounds (sCons (sVar 5) (sNil)))) (sBad) (sSkip))) (sSeq (sIf (sOr (s1 dNot (sIsi "tuple" (sVar 2))) (s2 dGt (sB dLen (sCons (sVar 2) (sNil))) (sC (.int 12)))) (sBad) (sSkip)) (sSeq (sFor (tgTup (tgCons (tgName 4) (tgCons (tgName 6) (tgNil)))) (iL dEnum (sCons (sVar 2) (sNil))) (sIf (s1 dNot (sCall 2 F_p_is_tie (sCons (sVar 0) (sCons (sVar 6) (sNil))))) (sBad) (sSkip))) (sIf (s1 dNot (sCall 3 F_p_is_whole (sCons (sVar 3) (sCons (sC (.int 1)) (sCons (sC (.int 10000000000)) (sNil)))))) (sBad) (sSkip)))))
def F_p_need_rest : Fn := fnF 7 b_p_need_rest_den
def b_m_Setting_init_den : Exe := sSeq (sDo (sCall 1 F_p_need_cameras (sCons (sVar 1) (sNil)))) (sSeq (sDo (sCall 4 F_p_need_rest (sCons (sVar 1) (sCons (sVar 2) (sCons (sVar 3) (sCons (sVar 4) (sNil))))))) (sSeq (sSetA "Setting" 0 1 (sVar 1)) (sSeq (sSetA "Setting" 0 0 (sVar 2)) (sSeq (sSetA "Setting" 0 3 (sVar 3)) (sSetA "Setting" 0 2 (sVar 4))))))
def F_m_Setting_init : Fn := fnI "Setting" 4 4 b_m_Setting_init_den
def b_l_made_den : Exe := sRet (sMake 3 (["gap"] : List Str).length F_m_Setting_init (fun ds es => ds ++ es) (sCons (s2 dIx (sVar 0) (sC (.int 0))) (sCons (s2 dIx (sVar 0) (sC (.int 1))) (sCons (s2 dIx (sVar 0) (sC (.int 2))) (sNil)))) (sCons (s2 dIx (sVar 0) (sC (.int 3))) (sNil)))
def F_l_made : Fn := fnF 1 b_l_made_den
def b_l_like_den : Exe := sRet (s2 dEq (sB dRepr (sCons (sVar 0) (sNil))) (sB dRepr (sCons (sVar 1) (sNil))))
def F_l_like : Fn := fnF 2 b_l_like_den
def b_m_Setting_shots_den : Exe := sRet (sB dTuple (sCons (sLc2 (tgTup (tgCons (tgName 2) (tgCons (tgName 3) (tgNil)))) (iL dEnum (sCons (sAttr [("Setting", 1)] (sVar 0)) (sNil))) (sC (.bl true)) (tgName 1) (iL dRange1 (sCons (sB dLen (sCons (sVar 3) (sNil))) (sNil))) (sC (.bl true)) (sTup (sCons (sVar 2) (sCons (sVar 1) (sNil)))) [2, 3, 1] [1]) (sNil)))
def F_m_Setting_shots : Fn := fnF 4 b_m_Setting_shots_den
def b_m_Setting_len_den : Exe := sRet (sB dLen (sCons (sMeth "Setting" 1 F_m_Setting_shots (sVar 0) (sNil)) (sNil)))
def F_m_Setting_len : Fn := fnF 1 b_m_Setting_len_den
def b_m_Setting_getitem_den : Exe := sSeq (sIf (s1 dNot (sCall 2 F_p_is_shot (sCons (sAttr [("Setting", 1)] (sVar 0)) (sCons (sVar 1) (sNil))))) (sBad) (sSkip)) (sRet (s2 dIx (s2 dIx (sAttr [("Setting", 1)] (sVar 0)) (s2 dIx (sVar 1) (sC (.int 0)))) (s2 dIx (sVar 1) (sC (.int 1)))))
def F_m_Setting_getitem : Fn := fnF 2 b_m_Setting_getitem_den
def b_m_Setting_eq_den : Exe := sSeq (sIf (sOr (s1 dNot (s1 (dIsiC [("Setting", true)]) (sVar 1))) (sOr (s2 dNe (sAttr [("Setting", 1)] (sVar 0)) (sAttr [("Setting", 1)] (sVar 1))) (s2 dNe (sAttr [("Setting", 0)] (sVar 0)) (sAttr [("Setting", 0)] (sVar 1))))) (sRet (sC (.bl false))) (sSkip)) (sRet (sAnd (s2 dEq (sAttr [("Setting", 3)] (sVar 0)) (sAttr [("Setting", 3)] (sVar 1))) (s2 dEq (sAttr [("Setting", 2)] (sVar 0)) (sAttr [("Setting", 2)] (sVar 1)))))
def F_m_Setting_eq : Fn := fnF 2 b_m_Setting_eq_den
def b_l_unlike_den : Exe := sSeq (sAsgT (tgTup (tgCons (tgName 3) (tgCons (tgName 4) (tgCons (tgName 5) (tgCons (tgName 6) (tgNil)))))) (sVar 0)) (sSeq (sAsg 1 (sIte (s2 dNe (s2 dIx (sVar 4) (sC (.int 0))) (sTup (sCons (s2 dSub (sC (.int 0)) (s2 dPow (sC (.int 10)) (sC (.int 9)))) (sCons (s2 dPow (sC (.int 10)) (sC (.int 9))) (sNil))))) (sTup (sCons (s2 dSub (sC (.int 0)) (s2 dPow (sC (.int 10)) (sC (.int 9)))) (sCons (s2 dPow (sC (.int 10)) (sC (.int 9))) (sNil)))) (sTup (sCons (sC (.int 0)) (sCons (sC (.int 0)) (sNil)))))) (sSeq (sAsgO 2 (fun env st => ((sCons (sMake 3 (["gap"] : List Str).length F_m_Setting_init (fun ds es => ds ++ es) (sCons (sVar 3) (sCons (s2 dAdd (sTup (sCons (sVar 1) (sNil))) (sSl (sVar 4) (some (sC (.int 1))) none)) (sCons (sVar 5) (sNil)))) (sCons (sVar 6) (sNil))) (sNil)) env st).bind fun ds st1 => if few ds then .ok ds st1 else .bad)) (sSeq (sIf (s2 dNe (s1 dRev (sVar 5)) (sVar 5)) (sApp 2 (sMake 3 (["gap"] : List Str).length F_m_Setting_init (fun ds es => ds ++ es) (sCons (sVar 3) (sCons (sVar 4) (sCons (s1 dRev (sVar 5)) (sNil)))) (sCons (sVar 6) (sNil)))) (sSkip)) (sSeq (sIf (s2 dNe (sVar 5) (sTup (sNil))) (sApp 2 (sMake 3 (["gap"] : List Str).length F_m_Setting_init (fun ds es => ds ++ es) (sCons (sVar 3) (sCons (sVar 4) (sCons (sSl (sVar 5) (some (sC (.int 1))) none) (sNil)))) (sCons (sVar 6) (sNil)))) (sSkip)) (sSeq (sIf (s2 dLt (sB dLen (sCons (sCall 1 F_l_shots (sCons (sVar 3) (sNil))) (sNil))) (sC (.int 12))) (sSeq (sAsg 7 (s2 dAdd (sSl (sVar 3) none (some (s1 dNeg (sC (.int 1))))) (sTup (sCons (s2 dAdd (s2 dIx (sVar 3) (s1 dNeg (sC (.int 1)))) (sTup (sCons (s2 dPow (sC (.int 10)) (sC (.int 9))) (sNil)))) (sNil))))) (sApp 2 (sMake 3 (["gap"] : List Str).length F_m_Setting_init (fun ds es => ds ++ es) (sCons (sVar 7) (sCons (sVar 4) (sCons (sVar 5) (sNil)))) (sCons (sVar 6) (sNil))))) (sSkip)) (sRel 2 (sRet (sVar 2))))))))
def F_l_unlike : Fn := fnF 8 b_l_unlike_den
def b_law_k01_den : Exe := sSeq (sAsg 1 (sCall 1 F_l_begun (sCons (sVar 0) (sNil)))) (sSeq (sFor (tgName 2) (iL dRange1 (sCons (sC (.int 4)) (sNil))) (sSeq (sAsg 3 (sCall 1 F_l_far (sCons (sVar 1) (sNil)))) (sSeq (sAsgT (tgTup (tgCons (tgName 7) (tgCons (tgName 8) (tgNil)))) (sTup (sCons (sCall 1 F_l_made (sCons (sVar 3) (sNil))) (sCons (sCall 1 F_l_made (sCons (sVar 3) (sNil))) (sNil))))) (sSeq (sIf (s1 dNot (s1 (dIsiC [("Setting", true)]) (sVar 7))) (sRet (sC (.bl false))) (sSkip)) (sSeq (sIf (s1 dNot (sCall 2 F_l_like (sCons (sTup (sCons (sAttr [("Setting", 1)] (sVar 7)) (sCons (sAttr [("Setting", 0)] (sVar 7)) (sCons (sAttr [("Setting", 3)] (sVar 7)) (sCons (sAttr [("Setting", 2)] (sVar 7)) (sNil)))))) (sCons (sVar 3) (sNil))))) (sRet (sC (.bl false))) (sSkip)) (sSeq (sAsg 4 (sCall 1 F_l_shots (sCons (s2 dIx (sVar 3) (sC (.int 0))) (sNil)))) (sSeq (sIf (s1 dNot (sCall 2 F_l_like (sCons (sLst (sCons (sMeth "Setting" 1 F_m_Setting_shots (sVar 7) (sNil)) (sCons (sLenO "Setting" 1 F_m_Setting_len (sVar 7)) (sNil)))) (sCons (sLst (sCons (sB dTuple (sCons (sVar 4) (sNil))) (sCons (sB dLen (sCons (sVar 4) (sNil))) (sNil)))) (sNil))))) (sRet (sC (.bl false))) (sSkip)) (sSeq (sIf (s1 dNot (sCall 2 F_l_like (sCons (sLc (tgName 10) (iSeq (sVar 4)) (sC (.bl true)) (sIxO "Setting" F_m_Setting_getitem (sVar 7) (sVar 10)) [10]) (sCons (sLc (tgName 10) (iSeq (sVar 4)) (sC (.bl true)) (s2 dIx (s2 dIx (s2 dIx (sVar 3) (sC (.int 0))) (s2 dIx (sVar 10) (sC (.int 0)))) (s2 dIx (sVar 10) (sC (.int 1)))) [10]) (sNil))))) (sRet (sC (.bl false))) (sSkip)) (sSeq (sAsg 5 (sMake 3 (["gap"] : List Str).length F_m_Setting_init (fun ds es => ds ++ es) (sCons (s2 dIx (sVar 3) (sC (.int 0))) (sCons (s2 dIx (sVar 3) (sC (.int 1))) (sCons (s2 dIx (sVar 3) (sC (.int 2))) (sNil)))) (sCons (s2 dAdd (s2 dMod (sB dInt (sCons (s2 dIx (sVar 3) (sC (.int 3))) (sNil))) (s2 dPow (sC (.int 10)) (sC (.int 10)))) (sC (.int 1))) (sNil)))) (sSeq (sAsg 6 (sLst (sCons (sEqO "Setting" ["Setting"] F_m_Setting_eq false dEq (sVar 7) (sVar 8)) (sCons (sEqO "Setting" ["Setting"] F_m_Setting_eq true dNe (sVar 7) (sVar 8)) (sCons (sEqO "Setting" ["Setting"] F_m_Setting_eq false dEq (sVar 7) (sVar 5)) (sCons (sEqO "Setting" ["Setting"] F_m_Setting_eq true dNe (sVar 7) (sVar 5)) (sCons (sEqO "Setting" ["Setting"] F_m_Setting_eq false dEq (sVar 7) (sVar 3)) (sCons (sEqO "Setting" ["Setting"] F_m_Setting_eq false dEq (sVar 7) (sC (.int 5))) (sNil))))))))) (sSeq (sIf (s1 dNot (sCall 2 F_l_like (sCons (sVar 6) (sCons (sLst (sCons (sC (.bl true)) (sCons (sC (.bl false)) (sCons (sC (.bl false)) (sCons (sC (.bl true)) (sCons (sC (.bl false)) (sCons (sC (.bl false)) (sNil)))))))) (sNil))))) (sRet (sC (.bl false))) (sSkip)) (sIf (s2 dNe (sLc (tgName 9) (iSeq (sCall 1 F_l_unlike (sCons (sVar 3) (sNil)))) (sOr (sEqO "Setting" ["Setting"] F_m_Setting_eq false dEq (sVar 9) (sVar 7)) (sOr (sEqO "Setting" ["Setting"] F_m_Setting_eq false dEq (sVar 7) (sVar 9)) (s1 dNot (sEqO "Setting" ["Setting"] F_m_Setting_eq true dNe (sVar 9) (sVar 7))))) (sC (.int 1)) [9]) (sLst (sNil))) (sRet (sC (.bl false))) (sSkip))))))))))))) (sRet (s2 dEq (sTup (sCons (sC (.int 3)) (sCons (sC (.int 12)) (sCons (sC (.int 12)) (sCons (sC (.int 1000000000)) (sCons (sC (.int 10000000000)) (sNil))))))) (sTup (sCons (sC (.int 3)) (sCons (sC (.int 12)) (sCons (sC (.int 12)) (sCons (s2 dPow (sC (.int 10)) (sC (.int 9))) (sCons (s2 dPow (sC (.int 10)) (sC (.int 10))) (sNil))))))))))
def F_law_k01 : Fn := fnF 11 b_law_k01_den
end LW
set_option Elab.async false
set_option linter.all false
set_option maxRecDepth 100000
set_option maxHeartbeats 0
namespace GH
open PySem PySem.Spec PyProof.Rows PySem.W
abbrev Fc := Frag → Bool
def obsF (fa : List Fc) (fn : List He5.DefA) (K : Frag) : He.AlD := ((fa.all fun f => f K) && fn.all fun d => d.ok K, fn.map fun d => He5.fnA K (d.at_ K))
def SaysF (fa : List Fc) (fn : List He5.DefA) (K : Frag) : Prop := obsF fa fn K = He5.valA fn
def obsFG (n : Nat) (fa : List Fc) (fn : List He5.DefA) (g : Addr → Option Obj) : He.AlD := obsF fa fn (He.frG g (He5.asA g n))
def hookF (n : Nat) (fa : List Fc) (fn : List He5.DefA) : Hook where
  α := He.AlD
  obs := fun s => obsFG n fa fn s.heap.get?
  val := fun _ => He5.valA fn
  says := fun _ h => ∃ K : Frag, K.In h ∧ SaysF fa fn K
  of := fun _ _ e => ⟨_, He.frG_in, e⟩
  keeps := fun _ _ _ ⟨K, hK, c⟩ k => ⟨K, Frag.In.keeps hK k, c⟩
theorem obsFG_eq {n : Nat} {fa : List Fc} {fn : List He5.DefA} {g : Addr → Option Obj} {s : Shared} (h : ∀ a, g a = s.heap.get? a) : obsFG n fa fn g = (hookF n fa fn).obs s := by
  have e : g = s.heap.get? := funext h
  rw [e] <;> rfl
section
variable {fa : List Fc} {fn : List He5.DefA} {K : Frag}
theorem SaysF.fact (c : SaysF fa fn K) (i : Nat) {f : Fc} (h : fa[i]? = some f := by rfl) : f K = true := by
  have c1 := (He.ba (show ((fa.all fun f => f K) && fn.all fun d => d.ok K) = true from congrArg (fun z : He.AlD => z.1) c)).1
  exact List.all_eq_true.mp c1 f (List.mem_of_getElem? h)
theorem SaysF.def_ (c : SaysF fa fn K) (i : Nat) {d : He5.DefA} (h : fn[i]? = some d := by rfl) : ∃ fd, L2.FunD K d.name d.qual d.params d.body d.scope (d.dvs K) (d.kws K) (d.at_ K) fd := by
  have c2 := (He.ba (show ((fa.all fun f => f K) && fn.all fun d => d.ok K) = true from congrArg (fun z : He.AlD => z.1) c)).2
  have e : fn.map (fun d => He5.fnA K (d.at_ K)) = fn.map He5.DefA.val := congrArg (fun z : He.AlD => z.2) c
  have e2 : (fn.map fun d => He5.fnA K (d.at_ K))[i]? = (fn.map He5.DefA.val)[i]? := by rw [e]
  rw [List.getElem?_map, List.getElem?_map, h] at e2
  exact He5.DefA.funD (Option.some.inj e2) (List.all_eq_true.mp c2 d (List.mem_of_getElem? h))
end
end GH
set_option Elab.async false
set_option linter.all false
set_option maxRecDepth 100000
set_option maxHeartbeats 0
namespace GH
open PySem PySem.Spec PyProof.Rows PySem.W He SlX GI
section
variable {K : Frag} {h : Heap} {mg : PySem.Str → Option Value}
theorem ba3 {a b c : Bool} (h : (a && (b && c)) = true) : a = true ∧ b = true ∧ c = true := ⟨(ba h).1, ba (ba h).2⟩
def eqV (a b : Option Value) : Bool := decide (a = b)
def eqB (a : Option Bool) (b : Bool) : Bool := decide (a = some b)
def fSCls (c : PySem.Str) : Fc := fun K => plainGet K (ga K c) Str.empty && (isClsIn K (ga K c) && (plainOver K (ga K c) && eqO (findIn K (.ref (ga K c)) "__setattr__") (some (some (.builtin "object.__setattr__")))))
theorem scls_ok {c : PySem.Str} (e : fSCls c K = true) : SCls K (ga K c) := by
  obtain ⟨h1, h2⟩ := ba e
  obtain ⟨h2, h3⟩ := ba h2
  obtain ⟨h3, h4⟩ := ba h3
  exact ⟨h1, h2, h3, eqO_ok h4⟩
def fSlot (c f : PySem.Str) (i : Nat) : Fc := fun K => eqO (findIn K (.ref (ga K c)) f) (some (some (.ref (ma K (ga K c) f)))) && (eqO (specialIn K (.ref (ma K (ga K c) f)) "__get__") (some (some (.builtin "member_descriptor.__get__"))) && (eqB (takesIn K (.ref (ma K (ga K c) f))) true &&
  (eqV (typeIn K (.ref (ma K (ga K c) f))) (some (.type "member_descriptor")) && decide (slotIn K (ma K (ga K c) f) (ga K c) = some i))))
theorem slot_ok {c f : PySem.Str} {i : Nat} (hi : i < 1000) (e : fSlot c f i K = true) : Slot1 K (ga K c) f (ma K (ga K c) f) i := by
  obtain ⟨h1, h2⟩ := ba e
  obtain ⟨h2, h3⟩ := ba h2
  obtain ⟨h3, h4⟩ := ba h3
  obtain ⟨h4, h5⟩ := ba h4
  exact ⟨eqO_ok h1, eqO_ok h2, of_decide_eq_true h3, of_decide_eq_true h4, of_decide_eq_true h5, hi⟩
def fSIsi (c : PySem.Str) : Fc := fun K => eqO (findIn K (.ref (ga K c)) "__class__") (some (some (.builtin "object.__class__"))) && (eqO (specialIn K (.builtin "object.__class__") "__get__") (some (some (.builtin "getset_descriptor.__get__"))) && (eqB (takesIn K (.builtin "object.__class__")) true && eqB (mroIn K (ga K c) (.type "object")) true))
theorem sisi_ok {c : PySem.Str} (e : fSIsi c K = true) : SIsi K (ga K c) := by
  obtain ⟨h1, h2⟩ := ba e
  obtain ⟨h2, h3⟩ := ba h2
  obtain ⟨h3, h4⟩ := ba h3
  exact ⟨eqO_ok h1, eqO_ok h2, of_decide_eq_true h3, of_decide_eq_true h4⟩
/-- own == : no own !=, no class of plain data comes first -/
def fEq (c : PySem.Str) (cs : List PySem.Str) : Fc := fun K => eqO (findIn K (.ref (ga K c)) "__ne__") (some (some (.builtin "object.__ne__"))) && (eqB (subIn K (.ref (ga K c)) (.type "object")) true && ((["NoneType", "bool", "int", "str", "tuple", "list"].all fun t => notFirst K (ga K c) (.type t)) && cs.all fun d => notFirst K (ga K c) (.ref (ga K d))))
theorem eq_ok {c : PySem.Str} {cs : List PySem.Str} (e : fEq c cs K = true) (hm : ∀ d ∈ cs, mg d = some (.ref (ga K d))) : findIn K (.ref (ga K c)) "__ne__" = some (some (.builtin "object.__ne__")) ∧ subIn K (.ref (ga K c)) (.type "object") = some true ∧ NF K mg (ga K c) cs := by
  obtain ⟨h1, h2⟩ := ba e
  obtain ⟨h2, h3⟩ := ba h2
  obtain ⟨h3, h4⟩ := ba h3
  exact ⟨eqO_ok h1, of_decide_eq_true h2, ⟨fun d hd => ⟨_, hm d hd, List.all_eq_true.mp h4 d hd⟩, fun t ht => List.all_eq_true.mp h3 t ht⟩⟩
/-- isinstance(x, c) -/
def fIs (c : PySem.Str) (tab : List (PySem.Str × Bool)) : Fc := fun K => (["NoneType", "bool", "int", "str", "tuple", "list"].all fun t => eqB (kitOne K (.type t) (.ref (ga K c))) false) && tab.all fun p => eqB (kitOne K (.ref (ga K p.1)) (.ref (ga K c))) p.2
theorem look_mem {α : Type} : ∀ {tab : List (PySem.Str × α)} {c : PySem.Str} {b : α}, tab.lookup c = some b → (c, b) ∈ tab
  | [], _, _, h => by cases h
  | (x, y) :: r, c, b, h => by
    unfold List.lookup at h
    split at h
    · rename_i z
      cases h
      rw [beq_iff_eq.mp z]
      exact List.mem_cons_self
    · exact List.mem_cons_of_mem _ (look_mem h)
theorem is_ok {c : PySem.Str} {tab : List (PySem.Str × Bool)} (e : fIs c tab K = true) (hm : ∀ p ∈ tab, mg p.1 = some (.ref (ga K p.1)) ∧ SCls K (ga K p.1) ∧ SIsi K (ga K p.1)) : IsC K mg (ga K c) tab := by
  obtain ⟨h1, h2⟩ := ba e
  refine ⟨fun d b hd => ?_, fun t ht => of_decide_eq_true (List.all_eq_true.mp h1 t ht)⟩
  have hp := look_mem hd
  obtain ⟨a, b', c'⟩ := hm _ hp
  exact ⟨_, a, b', c', of_decide_eq_true (List.all_eq_true.mp h2 _ hp)⟩
def fFnIn (c m : PySem.Str) : Fc := fun K => fnIn K (ma K (ga K c) m)
end
end GH
set_option Elab.async false
set_option linter.all false
set_option maxRecDepth 100000
set_option maxHeartbeats 4000000
namespace LW
open PySem PySem.Spec PyProof.Rows L2 GI
def topS (i : Nat) : Stmt := PySem.Challenge.pw_gapalbums_k01_settings_made.main.body.getD i (.Pass ⟨0, 0, 0, 0⟩)
abbrev s_l_begun : Stmt := topS 22
abbrev f_l_begun (K : PySem.W.Frag) : Addr := He.ga K "_law_begun"
theorem sc_l_begun : FnScope ["_law_script", "_law_total", "_law_k", "_law_cell"] ["_law_script"] (defScope s_l_begun) := ⟨by decide +kernel, by decide +kernel, by decide +kernel, by decide +kernel, rfl, by decide +kernel, by decide +kernel⟩
theorem v_l_begun_law_total : (defScope s_l_begun).names.lookup (Str.ofString "_law_total") = some NameKind.local := by decide +kernel
theorem v_l_begun_law_script : (defScope s_l_begun).names.lookup (Str.ofString "_law_script") = some NameKind.local := by decide +kernel
theorem g_l_begun_enumerate : (defScope s_l_begun).names.lookup (Str.ofString "enumerate") = some NameKind.globalImplicit := by decide +kernel
theorem v_l_begun_law_cell : (defScope s_l_begun).names.lookup (Str.ofString "_law_cell") = some NameKind.local := by decide +kernel
theorem v_l_begun_law_k : (defScope s_l_begun).names.lookup (Str.ofString "_law_k") = some NameKind.local := by decide +kernel
theorem g_l_begun_int : (defScope s_l_begun).names.lookup (Str.ofString "int") = some NameKind.globalImplicit := by decide +kernel
abbrev s_l_draw : Stmt := topS 23
abbrev f_l_draw (K : PySem.W.Frag) : Addr := He.ga K "_law_draw"
theorem sc_l_draw : FnScope ["_law_m", "_law_top", "_law_k", "_law_mixed", "_law_cell"] ["_law_m", "_law_top"] (defScope s_l_draw) := ⟨by decide +kernel, by decide +kernel, by decide +kernel, by decide +kernel, rfl, by decide +kernel, by decide +kernel⟩
theorem v_l_draw_law_m : (defScope s_l_draw).names.lookup (Str.ofString "_law_m") = some NameKind.local := by decide +kernel
theorem v_l_draw_law_cell : (defScope s_l_draw).names.lookup (Str.ofString "_law_cell") = some NameKind.local := by decide +kernel
theorem v_l_draw_law_top : (defScope s_l_draw).names.lookup (Str.ofString "_law_top") = some NameKind.local := by decide +kernel
theorem g_l_draw_int : (defScope s_l_draw).names.lookup (Str.ofString "int") = some NameKind.globalImplicit := by decide +kernel
theorem v_l_draw_law_k : (defScope s_l_draw).names.lookup (Str.ofString "_law_k") = some NameKind.local := by decide +kernel
theorem v_l_draw_law_mixed : (defScope s_l_draw).names.lookup (Str.ofString "_law_mixed") = some NameKind.local := by decide +kernel
abbrev s_l_wide : Stmt := topS 24
abbrev f_l_wide (K : PySem.W.Frag) : Addr := He.ga K "_law_wide"
theorem sc_l_wide : FnScope ["_law_m", "_law_low", "_law_high"] ["_law_m", "_law_low", "_law_high"] (defScope s_l_wide) := ⟨by decide +kernel, by decide +kernel, by decide +kernel, by decide +kernel, rfl, by decide +kernel, by decide +kernel⟩
theorem v_l_wide_law_low : (defScope s_l_wide).names.lookup (Str.ofString "_law_low") = some NameKind.local := by decide +kernel
theorem v_l_wide_law_m : (defScope s_l_wide).names.lookup (Str.ofString "_law_m") = some NameKind.local := by decide +kernel
theorem g_l_wide_law_draw : (defScope s_l_wide).names.lookup (Str.ofString "_law_draw") = some NameKind.globalImplicit := by decide +kernel
theorem g_l_wide_int : (defScope s_l_wide).names.lookup (Str.ofString "int") = some NameKind.globalImplicit := by decide +kernel
theorem v_l_wide_law_high : (defScope s_l_wide).names.lookup (Str.ofString "_law_high") = some NameKind.local := by decide +kernel
abbrev s_l_stamps : Stmt := topS 25
abbrev f_l_stamps (K : PySem.W.Frag) : Addr := He.ga K "_law_stamps"
theorem sc_l_stamps : FnScope ["_law_m", "_law_many", "_law_way", "_law_base", "_law_k"] ["_law_m", "_law_many", "_law_way"] (defScope s_l_stamps) := ⟨by decide +kernel, by decide +kernel, by decide +kernel, by decide +kernel, rfl, by decide +kernel, by decide +kernel⟩
theorem v_l_stamps_law_way : (defScope s_l_stamps).names.lookup (Str.ofString "_law_way") = some NameKind.local := by decide +kernel
theorem v_l_stamps_law_many : (defScope s_l_stamps).names.lookup (Str.ofString "_law_many") = some NameKind.local := by decide +kernel
theorem g_l_stamps_range : (defScope s_l_stamps).names.lookup (Str.ofString "range") = some NameKind.globalImplicit := by decide +kernel
theorem g_l_stamps_sorted : (defScope s_l_stamps).names.lookup (Str.ofString "sorted") = some NameKind.globalImplicit := by decide +kernel
theorem g_l_stamps_tuple : (defScope s_l_stamps).names.lookup (Str.ofString "tuple") = some NameKind.globalImplicit := by decide +kernel
theorem c_l_stamps_law_m : (defScope s_l_stamps).names.lookup (Str.ofString "_law_m") = some NameKind.cell := by decide +kernel
theorem g_l_stamps_law_wide : (defScope s_l_stamps).names.lookup (Str.ofString "_law_wide") = some NameKind.globalImplicit := by decide +kernel
theorem c_l_stamps_law_base : (defScope s_l_stamps).names.lookup (Str.ofString "_law_base") = some NameKind.cell := by decide +kernel
abbrev s_l_cameras : Stmt := topS 26
abbrev f_l_cameras (K : PySem.W.Frag) : Addr := He.ga K "_law_cameras"
theorem sc_l_cameras : FnScope ["_law_m", "_law_most", "_law_shots_most", "_law_way", "_law_number", "_law_found", "_law_left", "_law_many"] ["_law_m", "_law_most", "_law_shots_most", "_law_way"] (defScope s_l_cameras) := ⟨by decide +kernel, by decide +kernel, by decide +kernel, by decide +kernel, rfl, by decide +kernel, by decide +kernel⟩
theorem v_l_cameras_law_shots_most : (defScope s_l_cameras).names.lookup (Str.ofString "_law_shots_most") = some NameKind.local := by decide +kernel
theorem v_l_cameras_law_found : (defScope s_l_cameras).names.lookup (Str.ofString "_law_found") = some NameKind.local := by decide +kernel
theorem v_l_cameras_law_left : (defScope s_l_cameras).names.lookup (Str.ofString "_law_left") = some NameKind.local := by decide +kernel
theorem v_l_cameras_law_most : (defScope s_l_cameras).names.lookup (Str.ofString "_law_most") = some NameKind.local := by decide +kernel
theorem v_l_cameras_law_m : (defScope s_l_cameras).names.lookup (Str.ofString "_law_m") = some NameKind.local := by decide +kernel
theorem g_l_cameras_law_draw : (defScope s_l_cameras).names.lookup (Str.ofString "_law_draw") = some NameKind.globalImplicit := by decide +kernel
theorem g_l_cameras_range : (defScope s_l_cameras).names.lookup (Str.ofString "range") = some NameKind.globalImplicit := by decide +kernel
theorem v_l_cameras_law_number : (defScope s_l_cameras).names.lookup (Str.ofString "_law_number") = some NameKind.local := by decide +kernel
theorem g_l_cameras_min : (defScope s_l_cameras).names.lookup (Str.ofString "min") = some NameKind.globalImplicit := by decide +kernel
theorem v_l_cameras_law_many : (defScope s_l_cameras).names.lookup (Str.ofString "_law_many") = some NameKind.local := by decide +kernel
theorem v_l_cameras_law_way : (defScope s_l_cameras).names.lookup (Str.ofString "_law_way") = some NameKind.local := by decide +kernel
theorem g_l_cameras_law_stamps : (defScope s_l_cameras).names.lookup (Str.ofString "_law_stamps") = some NameKind.globalImplicit := by decide +kernel
theorem g_l_cameras_tuple : (defScope s_l_cameras).names.lookup (Str.ofString "tuple") = some NameKind.globalImplicit := by decide +kernel
abbrev s_l_shots : Stmt := topS 27
abbrev f_l_shots (K : PySem.W.Frag) : Addr := He.ga K "_law_shots"
theorem sc_l_shots : FnScope ["_law_cameras_here", "_law_found", "_law_number", "_law_stamps_here", "_law_at"] ["_law_cameras_here"] (defScope s_l_shots) := ⟨by decide +kernel, by decide +kernel, by decide +kernel, by decide +kernel, rfl, by decide +kernel, by decide +kernel⟩
theorem v_l_shots_law_found : (defScope s_l_shots).names.lookup (Str.ofString "_law_found") = some NameKind.local := by decide +kernel
theorem v_l_shots_law_cameras_here : (defScope s_l_shots).names.lookup (Str.ofString "_law_cameras_here") = some NameKind.local := by decide +kernel
theorem g_l_shots_enumerate : (defScope s_l_shots).names.lookup (Str.ofString "enumerate") = some NameKind.globalImplicit := by decide +kernel
theorem v_l_shots_law_stamps_here : (defScope s_l_shots).names.lookup (Str.ofString "_law_stamps_here") = some NameKind.local := by decide +kernel
theorem c_l_shots_law_number : (defScope s_l_shots).names.lookup (Str.ofString "_law_number") = some NameKind.cell := by decide +kernel
theorem g_l_shots_len : (defScope s_l_shots).names.lookup (Str.ofString "len") = some NameKind.globalImplicit := by decide +kernel
theorem g_l_shots_range : (defScope s_l_shots).names.lookup (Str.ofString "range") = some NameKind.globalImplicit := by decide +kernel
abbrev s_l_far : Stmt := topS 30
abbrev f_l_far (K : PySem.W.Frag) : Addr := He.ga K "_law_far"
theorem sc_l_far : FnScope ["_law_m", "_law_cameras_here", "_law_stamps_here", "_law_k", "_law_bounds", "_law_ties", "_law_shots_here", "_law_ends"] ["_law_m"] (defScope s_l_far) := ⟨by decide +kernel, by decide +kernel, by decide +kernel, by decide +kernel, rfl, by decide +kernel, by decide +kernel⟩
theorem v_l_far_law_m : (defScope s_l_far).names.lookup (Str.ofString "_law_m") = some NameKind.local := by decide +kernel
theorem g_l_far_law_draw : (defScope s_l_far).names.lookup (Str.ofString "_law_draw") = some NameKind.globalImplicit := by decide +kernel
theorem g_l_far_law_cameras : (defScope s_l_far).names.lookup (Str.ofString "_law_cameras") = some NameKind.globalImplicit := by decide +kernel
theorem v_l_far_law_cameras_here : (defScope s_l_far).names.lookup (Str.ofString "_law_cameras_here") = some NameKind.local := by decide +kernel
theorem g_l_far_law_shots : (defScope s_l_far).names.lookup (Str.ofString "_law_shots") = some NameKind.globalImplicit := by decide +kernel
theorem v_l_far_law_bounds : (defScope s_l_far).names.lookup (Str.ofString "_law_bounds") = some NameKind.local := by decide +kernel
theorem v_l_far_law_ties : (defScope s_l_far).names.lookup (Str.ofString "_law_ties") = some NameKind.local := by decide +kernel
theorem v_l_far_law_shots_here : (defScope s_l_far).names.lookup (Str.ofString "_law_shots_here") = some NameKind.local := by decide +kernel
theorem v_l_far_law_stamps_here : (defScope s_l_far).names.lookup (Str.ofString "_law_stamps_here") = some NameKind.local := by decide +kernel
theorem g_l_far_law_wide : (defScope s_l_far).names.lookup (Str.ofString "_law_wide") = some NameKind.globalImplicit := by decide +kernel
theorem g_l_far_sorted : (defScope s_l_far).names.lookup (Str.ofString "sorted") = some NameKind.globalImplicit := by decide +kernel
theorem v_l_far_law_ends : (defScope s_l_far).names.lookup (Str.ofString "_law_ends") = some NameKind.local := by decide +kernel
theorem g_l_far_range : (defScope s_l_far).names.lookup (Str.ofString "range") = some NameKind.globalImplicit := by decide +kernel
theorem v_l_far_law_k : (defScope s_l_far).names.lookup (Str.ofString "_law_k") = some NameKind.local := by decide +kernel
theorem g_l_far_len : (defScope s_l_far).names.lookup (Str.ofString "len") = some NameKind.globalImplicit := by decide +kernel
theorem g_l_far_tuple : (defScope s_l_far).names.lookup (Str.ofString "tuple") = some NameKind.globalImplicit := by decide +kernel
abbrev s_p_is_whole : Stmt := topS 12
abbrev f_p_is_whole (K : PySem.W.Frag) : Addr := He.ga K "is_whole"
theorem sc_p_is_whole : FnScope ["value", "least", "most"] ["value", "least", "most"] (defScope s_p_is_whole) := ⟨by decide +kernel, by decide +kernel, by decide +kernel, by decide +kernel, rfl, by decide +kernel, by decide +kernel⟩
theorem v_p_is_whole_value : (defScope s_p_is_whole).names.lookup (Str.ofString "value") = some NameKind.local := by decide +kernel
theorem g_p_is_whole_isinstance : (defScope s_p_is_whole).names.lookup (Str.ofString "isinstance") = some NameKind.globalImplicit := by decide +kernel
theorem g_p_is_whole_int : (defScope s_p_is_whole).names.lookup (Str.ofString "int") = some NameKind.globalImplicit := by decide +kernel
theorem g_p_is_whole_bool : (defScope s_p_is_whole).names.lookup (Str.ofString "bool") = some NameKind.globalImplicit := by decide +kernel
theorem v_p_is_whole_least : (defScope s_p_is_whole).names.lookup (Str.ofString "least") = some NameKind.local := by decide +kernel
theorem v_p_is_whole_most : (defScope s_p_is_whole).names.lookup (Str.ofString "most") = some NameKind.local := by decide +kernel
abbrev s_p_need_cameras : Stmt := topS 18
abbrev f_p_need_cameras (K : PySem.W.Frag) : Addr := He.ga K "need_cameras"
theorem sc_p_need_cameras : FnScope ["cameras", "number", "stamps", "at", "stamp"] ["cameras"] (defScope s_p_need_cameras) := ⟨by decide +kernel, by decide +kernel, by decide +kernel, by decide +kernel, rfl, by decide +kernel, by decide +kernel⟩
theorem v_p_need_cameras_cameras : (defScope s_p_need_cameras).names.lookup (Str.ofString "cameras") = some NameKind.local := by decide +kernel
theorem g_p_need_cameras_isinstance : (defScope s_p_need_cameras).names.lookup (Str.ofString "isinstance") = some NameKind.globalImplicit := by decide +kernel
theorem g_p_need_cameras_tuple : (defScope s_p_need_cameras).names.lookup (Str.ofString "tuple") = some NameKind.globalImplicit := by decide +kernel
theorem g_p_need_cameras_len : (defScope s_p_need_cameras).names.lookup (Str.ofString "len") = some NameKind.globalImplicit := by decide +kernel
theorem g_p_need_cameras_MOST_CAMERAS : (defScope s_p_need_cameras).names.lookup (Str.ofString "MOST_CAMERAS") = some NameKind.globalImplicit := by decide +kernel
theorem g_p_need_cameras_enumerate : (defScope s_p_need_cameras).names.lookup (Str.ofString "enumerate") = some NameKind.globalImplicit := by decide +kernel
theorem v_p_need_cameras_stamps : (defScope s_p_need_cameras).names.lookup (Str.ofString "stamps") = some NameKind.local := by decide +kernel
theorem v_p_need_cameras_number : (defScope s_p_need_cameras).names.lookup (Str.ofString "number") = some NameKind.local := by decide +kernel
theorem v_p_need_cameras_stamp : (defScope s_p_need_cameras).names.lookup (Str.ofString "stamp") = some NameKind.local := by decide +kernel
theorem v_p_need_cameras_at : (defScope s_p_need_cameras).names.lookup (Str.ofString "at") = some NameKind.local := by decide +kernel
theorem g_p_need_cameras_FAR : (defScope s_p_need_cameras).names.lookup (Str.ofString "FAR") = some NameKind.globalImplicit := by decide +kernel
theorem g_p_need_cameras_is_whole : (defScope s_p_need_cameras).names.lookup (Str.ofString "is_whole") = some NameKind.globalImplicit := by decide +kernel
theorem g_p_need_cameras_sum : (defScope s_p_need_cameras).names.lookup (Str.ofString "sum") = some NameKind.globalImplicit := by decide +kernel
theorem g_p_need_cameras_MOST_SHOTS : (defScope s_p_need_cameras).names.lookup (Str.ofString "MOST_SHOTS") = some NameKind.globalImplicit := by decide +kernel
abbrev s_p_is_pair : Stmt := topS 13
abbrev f_p_is_pair (K : PySem.W.Frag) : Addr := He.ga K "is_pair"
theorem sc_p_is_pair : FnScope ["value"] ["value"] (defScope s_p_is_pair) := ⟨by decide +kernel, by decide +kernel, by decide +kernel, by decide +kernel, rfl, by decide +kernel, by decide +kernel⟩
theorem v_p_is_pair_value : (defScope s_p_is_pair).names.lookup (Str.ofString "value") = some NameKind.local := by decide +kernel
theorem g_p_is_pair_isinstance : (defScope s_p_is_pair).names.lookup (Str.ofString "isinstance") = some NameKind.globalImplicit := by decide +kernel
theorem g_p_is_pair_tuple : (defScope s_p_is_pair).names.lookup (Str.ofString "tuple") = some NameKind.globalImplicit := by decide +kernel
theorem g_p_is_pair_len : (defScope s_p_is_pair).names.lookup (Str.ofString "len") = some NameKind.globalImplicit := by decide +kernel
abbrev s_p_are_bounds : Stmt := topS 16
abbrev f_p_are_bounds (K : PySem.W.Frag) : Addr := He.ga K "are_bounds"
theorem sc_p_are_bounds : FnScope ["value", "one"] ["value"] (defScope s_p_are_bounds) := ⟨by decide +kernel, by decide +kernel, by decide +kernel, by decide +kernel, rfl, by decide +kernel, by decide +kernel⟩
theorem v_p_are_bounds_value : (defScope s_p_are_bounds).names.lookup (Str.ofString "value") = some NameKind.local := by decide +kernel
theorem g_p_are_bounds_is_pair : (defScope s_p_are_bounds).names.lookup (Str.ofString "is_pair") = some NameKind.globalImplicit := by decide +kernel
theorem g_p_are_bounds_all : (defScope s_p_are_bounds).names.lookup (Str.ofString "all") = some NameKind.globalImplicit := by decide +kernel
abbrev s_p_is_camera : Stmt := topS 14
abbrev f_p_is_camera (K : PySem.W.Frag) : Addr := He.ga K "is_camera"
theorem sc_p_is_camera : FnScope ["cameras", "value"] ["cameras", "value"] (defScope s_p_is_camera) := ⟨by decide +kernel, by decide +kernel, by decide +kernel, by decide +kernel, rfl, by decide +kernel, by decide +kernel⟩
theorem v_p_is_camera_cameras : (defScope s_p_is_camera).names.lookup (Str.ofString "cameras") = some NameKind.local := by decide +kernel
theorem g_p_is_camera_len : (defScope s_p_is_camera).names.lookup (Str.ofString "len") = some NameKind.globalImplicit := by decide +kernel
theorem v_p_is_camera_value : (defScope s_p_is_camera).names.lookup (Str.ofString "value") = some NameKind.local := by decide +kernel
theorem g_p_is_camera_is_whole : (defScope s_p_is_camera).names.lookup (Str.ofString "is_whole") = some NameKind.globalImplicit := by decide +kernel
abbrev s_p_is_shot : Stmt := topS 15
abbrev f_p_is_shot (K : PySem.W.Frag) : Addr := He.ga K "is_shot"
theorem sc_p_is_shot : FnScope ["cameras", "value"] ["cameras", "value"] (defScope s_p_is_shot) := ⟨by decide +kernel, by decide +kernel, by decide +kernel, by decide +kernel, rfl, by decide +kernel, by decide +kernel⟩
theorem v_p_is_shot_value : (defScope s_p_is_shot).names.lookup (Str.ofString "value") = some NameKind.local := by decide +kernel
theorem g_p_is_shot_is_pair : (defScope s_p_is_shot).names.lookup (Str.ofString "is_pair") = some NameKind.globalImplicit := by decide +kernel
theorem v_p_is_shot_cameras : (defScope s_p_is_shot).names.lookup (Str.ofString "cameras") = some NameKind.local := by decide +kernel
theorem g_p_is_shot_is_camera : (defScope s_p_is_shot).names.lookup (Str.ofString "is_camera") = some NameKind.globalImplicit := by decide +kernel
theorem g_p_is_shot_len : (defScope s_p_is_shot).names.lookup (Str.ofString "len") = some NameKind.globalImplicit := by decide +kernel
theorem g_p_is_shot_is_whole : (defScope s_p_is_shot).names.lookup (Str.ofString "is_whole") = some NameKind.globalImplicit := by decide +kernel
abbrev s_p_is_tie : Stmt := topS 17
abbrev f_p_is_tie (K : PySem.W.Frag) : Addr := He.ga K "is_tie"
theorem sc_p_is_tie : FnScope ["cameras", "value", "one", "shot"] ["cameras", "value"] (defScope s_p_is_tie) := ⟨by decide +kernel, by decide +kernel, by decide +kernel, by decide +kernel, rfl, by decide +kernel, by decide +kernel⟩
theorem v_p_is_tie_value : (defScope s_p_is_tie).names.lookup (Str.ofString "value") = some NameKind.local := by decide +kernel
theorem g_p_is_tie_isinstance : (defScope s_p_is_tie).names.lookup (Str.ofString "isinstance") = some NameKind.globalImplicit := by decide +kernel
theorem g_p_is_tie_tuple : (defScope s_p_is_tie).names.lookup (Str.ofString "tuple") = some NameKind.globalImplicit := by decide +kernel
theorem g_p_is_tie_len : (defScope s_p_is_tie).names.lookup (Str.ofString "len") = some NameKind.globalImplicit := by decide +kernel
theorem g_p_is_tie_all : (defScope s_p_is_tie).names.lookup (Str.ofString "all") = some NameKind.globalImplicit := by decide +kernel
abbrev s_p_need_rest : Stmt := topS 19
abbrev f_p_need_rest (K : PySem.W.Frag) : Addr := He.ga K "need_rest"
theorem sc_p_need_rest : FnScope ["cameras", "bounds", "ties", "gap", "number", "pair", "tie"] ["cameras", "bounds", "ties", "gap"] (defScope s_p_need_rest) := ⟨by decide +kernel, by decide +kernel, by decide +kernel, by decide +kernel, rfl, by decide +kernel, by decide +kernel⟩
theorem v_p_need_rest_bounds : (defScope s_p_need_rest).names.lookup (Str.ofString "bounds") = some NameKind.local := by decide +kernel
theorem g_p_need_rest_isinstance : (defScope s_p_need_rest).names.lookup (Str.ofString "isinstance") = some NameKind.globalImplicit := by decide +kernel
theorem g_p_need_rest_tuple : (defScope s_p_need_rest).names.lookup (Str.ofString "tuple") = some NameKind.globalImplicit := by decide +kernel
theorem g_p_need_rest_len : (defScope s_p_need_rest).names.lookup (Str.ofString "len") = some NameKind.globalImplicit := by decide +kernel
theorem v_p_need_rest_cameras : (defScope s_p_need_rest).names.lookup (Str.ofString "cameras") = some NameKind.local := by decide +kernel
theorem g_p_need_rest_enumerate : (defScope s_p_need_rest).names.lookup (Str.ofString "enumerate") = some NameKind.globalImplicit := by decide +kernel
theorem v_p_need_rest_pair : (defScope s_p_need_rest).names.lookup (Str.ofString "pair") = some NameKind.local := by decide +kernel
theorem v_p_need_rest_number : (defScope s_p_need_rest).names.lookup (Str.ofString "number") = some NameKind.local := by decide +kernel
theorem g_p_need_rest_are_bounds : (defScope s_p_need_rest).names.lookup (Str.ofString "are_bounds") = some NameKind.globalImplicit := by decide +kernel
theorem v_p_need_rest_ties : (defScope s_p_need_rest).names.lookup (Str.ofString "ties") = some NameKind.local := by decide +kernel
theorem g_p_need_rest_MOST_TIES : (defScope s_p_need_rest).names.lookup (Str.ofString "MOST_TIES") = some NameKind.globalImplicit := by decide +kernel
theorem v_p_need_rest_tie : (defScope s_p_need_rest).names.lookup (Str.ofString "tie") = some NameKind.local := by decide +kernel
theorem g_p_need_rest_is_tie : (defScope s_p_need_rest).names.lookup (Str.ofString "is_tie") = some NameKind.globalImplicit := by decide +kernel
theorem g_p_need_rest_WIDE : (defScope s_p_need_rest).names.lookup (Str.ofString "WIDE") = some NameKind.globalImplicit := by decide +kernel
theorem v_p_need_rest_gap : (defScope s_p_need_rest).names.lookup (Str.ofString "gap") = some NameKind.local := by decide +kernel
theorem g_p_need_rest_is_whole : (defScope s_p_need_rest).names.lookup (Str.ofString "is_whole") = some NameKind.globalImplicit := by decide +kernel
abbrev s_m_Setting_init : Stmt := clsS (topS 20) 1
abbrev f_m_Setting_init (K : PySem.W.Frag) : Addr := He.ma K (He.ga K "Setting") "__init__"
theorem sc_m_Setting_init : FnScope ["self", "cameras", "bounds", "ties", "gap"] ["self", "cameras", "bounds", "ties", "gap"] (defScope s_m_Setting_init) := ⟨by decide +kernel, by decide +kernel, by decide +kernel, by decide +kernel, rfl, by decide +kernel, by decide +kernel⟩
theorem v_m_Setting_init_cameras : (defScope s_m_Setting_init).names.lookup (Str.ofString "cameras") = some NameKind.local := by decide +kernel
theorem g_m_Setting_init_need_cameras : (defScope s_m_Setting_init).names.lookup (Str.ofString "need_cameras") = some NameKind.globalImplicit := by decide +kernel
theorem v_m_Setting_init_gap : (defScope s_m_Setting_init).names.lookup (Str.ofString "gap") = some NameKind.local := by decide +kernel
theorem v_m_Setting_init_ties : (defScope s_m_Setting_init).names.lookup (Str.ofString "ties") = some NameKind.local := by decide +kernel
theorem v_m_Setting_init_bounds : (defScope s_m_Setting_init).names.lookup (Str.ofString "bounds") = some NameKind.local := by decide +kernel
theorem g_m_Setting_init_need_rest : (defScope s_m_Setting_init).names.lookup (Str.ofString "need_rest") = some NameKind.globalImplicit := by decide +kernel
theorem v_m_Setting_init_self : (defScope s_m_Setting_init).names.lookup (Str.ofString "self") = some NameKind.local := by decide +kernel
abbrev s_l_made : Stmt := topS 28
abbrev f_l_made (K : PySem.W.Frag) : Addr := He.ga K "_law_made"
theorem sc_l_made : FnScope ["_law_plain"] ["_law_plain"] (defScope s_l_made) := ⟨by decide +kernel, by decide +kernel, by decide +kernel, by decide +kernel, rfl, by decide +kernel, by decide +kernel⟩
theorem v_l_made_law_plain : (defScope s_l_made).names.lookup (Str.ofString "_law_plain") = some NameKind.local := by decide +kernel
theorem g_l_made_Setting : (defScope s_l_made).names.lookup (Str.ofString "Setting") = some NameKind.globalImplicit := by decide +kernel
abbrev s_l_like : Stmt := topS 29
abbrev f_l_like (K : PySem.W.Frag) : Addr := He.ga K "_law_like"
theorem sc_l_like : FnScope ["_law_told", "_law_due"] ["_law_told", "_law_due"] (defScope s_l_like) := ⟨by decide +kernel, by decide +kernel, by decide +kernel, by decide +kernel, rfl, by decide +kernel, by decide +kernel⟩
theorem v_l_like_law_told : (defScope s_l_like).names.lookup (Str.ofString "_law_told") = some NameKind.local := by decide +kernel
theorem g_l_like_repr : (defScope s_l_like).names.lookup (Str.ofString "repr") = some NameKind.globalImplicit := by decide +kernel
theorem v_l_like_law_due : (defScope s_l_like).names.lookup (Str.ofString "_law_due") = some NameKind.local := by decide +kernel
abbrev s_m_Setting_shots : Stmt := clsS (topS 20) 7
abbrev f_m_Setting_shots (K : PySem.W.Frag) : Addr := He.ma K (He.ga K "Setting") "shots"
theorem sc_m_Setting_shots : FnScope ["self", "at", "number", "stamps"] ["self"] (defScope s_m_Setting_shots) := ⟨by decide +kernel, by decide +kernel, by decide +kernel, by decide +kernel, rfl, by decide +kernel, by decide +kernel⟩
theorem v_m_Setting_shots_self : (defScope s_m_Setting_shots).names.lookup (Str.ofString "self") = some NameKind.local := by decide +kernel
theorem g_m_Setting_shots_enumerate : (defScope s_m_Setting_shots).names.lookup (Str.ofString "enumerate") = some NameKind.globalImplicit := by decide +kernel
theorem g_m_Setting_shots_tuple : (defScope s_m_Setting_shots).names.lookup (Str.ofString "tuple") = some NameKind.globalImplicit := by decide +kernel
abbrev s_m_Setting_len : Stmt := clsS (topS 20) 3
abbrev f_m_Setting_len (K : PySem.W.Frag) : Addr := He.ma K (He.ga K "Setting") "__len__"
theorem sc_m_Setting_len : FnScope ["self"] ["self"] (defScope s_m_Setting_len) := ⟨by decide +kernel, by decide +kernel, by decide +kernel, by decide +kernel, rfl, by decide +kernel, by decide +kernel⟩
theorem v_m_Setting_len_self : (defScope s_m_Setting_len).names.lookup (Str.ofString "self") = some NameKind.local := by decide +kernel
theorem g_m_Setting_len_len : (defScope s_m_Setting_len).names.lookup (Str.ofString "len") = some NameKind.globalImplicit := by decide +kernel
abbrev s_m_Setting_getitem : Stmt := clsS (topS 20) 5
abbrev f_m_Setting_getitem (K : PySem.W.Frag) : Addr := He.ma K (He.ga K "Setting") "__getitem__"
theorem sc_m_Setting_getitem : FnScope ["self", "shot"] ["self", "shot"] (defScope s_m_Setting_getitem) := ⟨by decide +kernel, by decide +kernel, by decide +kernel, by decide +kernel, rfl, by decide +kernel, by decide +kernel⟩
theorem v_m_Setting_getitem_shot : (defScope s_m_Setting_getitem).names.lookup (Str.ofString "shot") = some NameKind.local := by decide +kernel
theorem v_m_Setting_getitem_self : (defScope s_m_Setting_getitem).names.lookup (Str.ofString "self") = some NameKind.local := by decide +kernel
theorem g_m_Setting_getitem_is_shot : (defScope s_m_Setting_getitem).names.lookup (Str.ofString "is_shot") = some NameKind.globalImplicit := by decide +kernel
abbrev s_m_Setting_eq : Stmt := clsS (topS 20) 2
abbrev f_m_Setting_eq (K : PySem.W.Frag) : Addr := He.ma K (He.ga K "Setting") "__eq__"
theorem sc_m_Setting_eq : FnScope ["self", "other"] ["self", "other"] (defScope s_m_Setting_eq) := ⟨by decide +kernel, by decide +kernel, by decide +kernel, by decide +kernel, rfl, by decide +kernel, by decide +kernel⟩
theorem v_m_Setting_eq_other : (defScope s_m_Setting_eq).names.lookup (Str.ofString "other") = some NameKind.local := by decide +kernel
theorem g_m_Setting_eq_isinstance : (defScope s_m_Setting_eq).names.lookup (Str.ofString "isinstance") = some NameKind.globalImplicit := by decide +kernel
theorem g_m_Setting_eq_Setting : (defScope s_m_Setting_eq).names.lookup (Str.ofString "Setting") = some NameKind.globalImplicit := by decide +kernel
theorem v_m_Setting_eq_self : (defScope s_m_Setting_eq).names.lookup (Str.ofString "self") = some NameKind.local := by decide +kernel
abbrev s_l_unlike : Stmt := topS 31
abbrev f_l_unlike (K : PySem.W.Frag) : Addr := He.ga K "_law_unlike"
theorem sc_l_unlike : FnScope ["_law_plain", "_law_wide_here", "_law_found", "_law_cameras_here", "_law_bounds", "_law_ties", "_law_breadth", "_law_rows"] ["_law_plain"] (defScope s_l_unlike) := ⟨by decide +kernel, by decide +kernel, by decide +kernel, by decide +kernel, rfl, by decide +kernel, by decide +kernel⟩
theorem v_l_unlike_law_plain : (defScope s_l_unlike).names.lookup (Str.ofString "_law_plain") = some NameKind.local := by decide +kernel
theorem v_l_unlike_law_breadth : (defScope s_l_unlike).names.lookup (Str.ofString "_law_breadth") = some NameKind.local := by decide +kernel
theorem v_l_unlike_law_ties : (defScope s_l_unlike).names.lookup (Str.ofString "_law_ties") = some NameKind.local := by decide +kernel
theorem v_l_unlike_law_bounds : (defScope s_l_unlike).names.lookup (Str.ofString "_law_bounds") = some NameKind.local := by decide +kernel
theorem v_l_unlike_law_cameras_here : (defScope s_l_unlike).names.lookup (Str.ofString "_law_cameras_here") = some NameKind.local := by decide +kernel
theorem v_l_unlike_law_wide_here : (defScope s_l_unlike).names.lookup (Str.ofString "_law_wide_here") = some NameKind.local := by decide +kernel
theorem g_l_unlike_Setting : (defScope s_l_unlike).names.lookup (Str.ofString "Setting") = some NameKind.globalImplicit := by decide +kernel
theorem v_l_unlike_law_found : (defScope s_l_unlike).names.lookup (Str.ofString "_law_found") = some NameKind.local := by decide +kernel
theorem g_l_unlike_law_shots : (defScope s_l_unlike).names.lookup (Str.ofString "_law_shots") = some NameKind.globalImplicit := by decide +kernel
theorem g_l_unlike_len : (defScope s_l_unlike).names.lookup (Str.ofString "len") = some NameKind.globalImplicit := by decide +kernel
theorem v_l_unlike_law_rows : (defScope s_l_unlike).names.lookup (Str.ofString "_law_rows") = some NameKind.local := by decide +kernel
abbrev s_law_k01 : Stmt := topS 32
abbrev f_law_k01 (K : PySem.W.Frag) : Addr := He.ga K "law"
theorem sc_law_k01 : FnScope ["_law_script", "_law_m", "_law_turn", "_law_plain", "_law_shots_here", "_law_other", "_law_told", "_law_setting", "_law_near", "_law_one", "_law_shot"] ["_law_script"] (defScope s_law_k01) := ⟨by decide +kernel, by decide +kernel, by decide +kernel, by decide +kernel, rfl, by decide +kernel, by decide +kernel⟩
theorem v_law_k01_law_script : (defScope s_law_k01).names.lookup (Str.ofString "_law_script") = some NameKind.local := by decide +kernel
theorem g_law_k01_law_begun : (defScope s_law_k01).names.lookup (Str.ofString "_law_begun") = some NameKind.globalImplicit := by decide +kernel
theorem v_law_k01_law_m : (defScope s_law_k01).names.lookup (Str.ofString "_law_m") = some NameKind.local := by decide +kernel
theorem g_law_k01_range : (defScope s_law_k01).names.lookup (Str.ofString "range") = some NameKind.globalImplicit := by decide +kernel
theorem v_law_k01_law_turn : (defScope s_law_k01).names.lookup (Str.ofString "_law_turn") = some NameKind.local := by decide +kernel
theorem g_law_k01_law_far : (defScope s_law_k01).names.lookup (Str.ofString "_law_far") = some NameKind.globalImplicit := by decide +kernel
theorem c_law_k01_law_plain : (defScope s_law_k01).names.lookup (Str.ofString "_law_plain") = some NameKind.cell := by decide +kernel
theorem g_law_k01_law_made : (defScope s_law_k01).names.lookup (Str.ofString "_law_made") = some NameKind.globalImplicit := by decide +kernel
theorem v_law_k01_law_near : (defScope s_law_k01).names.lookup (Str.ofString "_law_near") = some NameKind.local := by decide +kernel
theorem c_law_k01_law_setting : (defScope s_law_k01).names.lookup (Str.ofString "_law_setting") = some NameKind.cell := by decide +kernel
theorem g_law_k01_isinstance : (defScope s_law_k01).names.lookup (Str.ofString "isinstance") = some NameKind.globalImplicit := by decide +kernel
theorem g_law_k01_Setting : (defScope s_law_k01).names.lookup (Str.ofString "Setting") = some NameKind.globalImplicit := by decide +kernel
theorem g_law_k01_law_like : (defScope s_law_k01).names.lookup (Str.ofString "_law_like") = some NameKind.globalImplicit := by decide +kernel
theorem g_law_k01_law_shots : (defScope s_law_k01).names.lookup (Str.ofString "_law_shots") = some NameKind.globalImplicit := by decide +kernel
theorem v_law_k01_law_shots_here : (defScope s_law_k01).names.lookup (Str.ofString "_law_shots_here") = some NameKind.local := by decide +kernel
theorem g_law_k01_len : (defScope s_law_k01).names.lookup (Str.ofString "len") = some NameKind.globalImplicit := by decide +kernel
theorem g_law_k01_tuple : (defScope s_law_k01).names.lookup (Str.ofString "tuple") = some NameKind.globalImplicit := by decide +kernel
theorem g_law_k01_int : (defScope s_law_k01).names.lookup (Str.ofString "int") = some NameKind.globalImplicit := by decide +kernel
theorem v_law_k01_law_other : (defScope s_law_k01).names.lookup (Str.ofString "_law_other") = some NameKind.local := by decide +kernel
theorem v_law_k01_law_told : (defScope s_law_k01).names.lookup (Str.ofString "_law_told") = some NameKind.local := by decide +kernel
theorem g_law_k01_law_unlike : (defScope s_law_k01).names.lookup (Str.ofString "_law_unlike") = some NameKind.globalImplicit := by decide +kernel
theorem g_law_k01_WIDE : (defScope s_law_k01).names.lookup (Str.ofString "WIDE") = some NameKind.globalImplicit := by decide +kernel
theorem g_law_k01_FAR : (defScope s_law_k01).names.lookup (Str.ofString "FAR") = some NameKind.globalImplicit := by decide +kernel
theorem g_law_k01_MOST_TIES : (defScope s_law_k01).names.lookup (Str.ofString "MOST_TIES") = some NameKind.globalImplicit := by decide +kernel
theorem g_law_k01_MOST_SHOTS : (defScope s_law_k01).names.lookup (Str.ofString "MOST_SHOTS") = some NameKind.globalImplicit := by decide +kernel
theorem g_law_k01_MOST_CAMERAS : (defScope s_law_k01).names.lookup (Str.ofString "MOST_CAMERAS") = some NameKind.globalImplicit := by decide +kernel
structure Fx (K : PySem.W.Frag) (mg : Str → Option Value) where
  n_all : mg "all" = none
  n_bool : mg "bool" = none
  n_enumerate : mg "enumerate" = none
  n_int : mg "int" = none
  n_isinstance : mg "isinstance" = none
  n_len : mg "len" = none
  n_min : mg "min" = none
  n_range : mg "range" = none
  n_repr : mg "repr" = none
  n_sorted : mg "sorted" = none
  n_sum : mg "sum" = none
  n_tuple : mg "tuple" = none
  t_FAR : Tok
  c_FAR : mg "FAR" = some (.int 1000000000 t_FAR)
  t_MOST_CAMERAS : Tok
  c_MOST_CAMERAS : mg "MOST_CAMERAS" = some (.int 3 t_MOST_CAMERAS)
  t_MOST_SHOTS : Tok
  c_MOST_SHOTS : mg "MOST_SHOTS" = some (.int 12 t_MOST_SHOTS)
  t_MOST_TIES : Tok
  c_MOST_TIES : mg "MOST_TIES" = some (.int 12 t_MOST_TIES)
  t_WIDE : Tok
  c_WIDE : mg "WIDE" = some (.int 10000000000 t_WIDE)
  fd_l_begun : FuncData
  u_l_begun : Fun K "_law_begun" "_law_begun" s_l_begun (f_l_begun K) fd_l_begun
  g_l_begun : mg "_law_begun" = some (.ref (f_l_begun K))
  fd_l_draw : FuncData
  u_l_draw : Fun K "_law_draw" "_law_draw" s_l_draw (f_l_draw K) fd_l_draw
  g_l_draw : mg "_law_draw" = some (.ref (f_l_draw K))
  fd_l_wide : FuncData
  u_l_wide : Fun K "_law_wide" "_law_wide" s_l_wide (f_l_wide K) fd_l_wide
  g_l_wide : mg "_law_wide" = some (.ref (f_l_wide K))
  fd_l_stamps : FuncData
  u_l_stamps : Fun K "_law_stamps" "_law_stamps" s_l_stamps (f_l_stamps K) fd_l_stamps
  g_l_stamps : mg "_law_stamps" = some (.ref (f_l_stamps K))
  fd_l_cameras : FuncData
  u_l_cameras : Fun K "_law_cameras" "_law_cameras" s_l_cameras (f_l_cameras K) fd_l_cameras
  g_l_cameras : mg "_law_cameras" = some (.ref (f_l_cameras K))
  fd_l_shots : FuncData
  u_l_shots : Fun K "_law_shots" "_law_shots" s_l_shots (f_l_shots K) fd_l_shots
  g_l_shots : mg "_law_shots" = some (.ref (f_l_shots K))
  fd_l_far : FuncData
  u_l_far : Fun K "_law_far" "_law_far" s_l_far (f_l_far K) fd_l_far
  g_l_far : mg "_law_far" = some (.ref (f_l_far K))
  fd_p_is_whole : FuncData
  u_p_is_whole : Fun K "is_whole" "is_whole" s_p_is_whole (f_p_is_whole K) fd_p_is_whole
  g_p_is_whole : mg "is_whole" = some (.ref (f_p_is_whole K))
  fd_p_need_cameras : FuncData
  u_p_need_cameras : Fun K "need_cameras" "need_cameras" s_p_need_cameras (f_p_need_cameras K) fd_p_need_cameras
  g_p_need_cameras : mg "need_cameras" = some (.ref (f_p_need_cameras K))
  fd_p_is_pair : FuncData
  u_p_is_pair : Fun K "is_pair" "is_pair" s_p_is_pair (f_p_is_pair K) fd_p_is_pair
  g_p_is_pair : mg "is_pair" = some (.ref (f_p_is_pair K))
  fd_p_are_bounds : FuncData
  u_p_are_bounds : Fun K "are_bounds" "are_bounds" s_p_are_bounds (f_p_are_bounds K) fd_p_are_bounds
  g_p_are_bounds : mg "are_bounds" = some (.ref (f_p_are_bounds K))
  fd_p_is_camera : FuncData
  u_p_is_camera : Fun K "is_camera" "is_camera" s_p_is_camera (f_p_is_camera K) fd_p_is_camera
  g_p_is_camera : mg "is_camera" = some (.ref (f_p_is_camera K))
  fd_p_is_shot : FuncData
  u_p_is_shot : Fun K "is_shot" "is_shot" s_p_is_shot (f_p_is_shot K) fd_p_is_shot
  g_p_is_shot : mg "is_shot" = some (.ref (f_p_is_shot K))
  fd_p_is_tie : FuncData
  u_p_is_tie : Fun K "is_tie" "is_tie" s_p_is_tie (f_p_is_tie K) fd_p_is_tie
  g_p_is_tie : mg "is_tie" = some (.ref (f_p_is_tie K))
  fd_p_need_rest : FuncData
  u_p_need_rest : Fun K "need_rest" "need_rest" s_p_need_rest (f_p_need_rest K) fd_p_need_rest
  g_p_need_rest : mg "need_rest" = some (.ref (f_p_need_rest K))
  fd_m_Setting_init : FuncData
  u_m_Setting_init : FunD K "__init__" "Setting.__init__" (defArgs s_m_Setting_init) (defBody s_m_Setting_init) (defScope s_m_Setting_init) [.ref (He.dflAt ("Setting", some "__init__") 0 K)] [("gap", .int 3600)] (f_m_Setting_init K) fd_m_Setting_init
  fd_l_made : FuncData
  u_l_made : Fun K "_law_made" "_law_made" s_l_made (f_l_made K) fd_l_made
  g_l_made : mg "_law_made" = some (.ref (f_l_made K))
  fd_l_like : FuncData
  u_l_like : Fun K "_law_like" "_law_like" s_l_like (f_l_like K) fd_l_like
  g_l_like : mg "_law_like" = some (.ref (f_l_like K))
  fd_m_Setting_shots : FuncData
  u_m_Setting_shots : Fun K "shots" "Setting.shots" s_m_Setting_shots (f_m_Setting_shots K) fd_m_Setting_shots
  fd_m_Setting_len : FuncData
  u_m_Setting_len : Fun K "__len__" "Setting.__len__" s_m_Setting_len (f_m_Setting_len K) fd_m_Setting_len
  fd_m_Setting_getitem : FuncData
  u_m_Setting_getitem : Fun K "__getitem__" "Setting.__getitem__" s_m_Setting_getitem (f_m_Setting_getitem K) fd_m_Setting_getitem
  fd_m_Setting_eq : FuncData
  u_m_Setting_eq : Fun K "__eq__" "Setting.__eq__" s_m_Setting_eq (f_m_Setting_eq K) fd_m_Setting_eq
  fd_l_unlike : FuncData
  u_l_unlike : Fun K "_law_unlike" "_law_unlike" s_l_unlike (f_l_unlike K) fd_l_unlike
  g_l_unlike : mg "_law_unlike" = some (.ref (f_l_unlike K))
  fd_law_k01 : FuncData
  u_law_k01 : Fun K "law" "law" s_law_k01 (f_law_k01 K) fd_law_k01
  g_law_k01 : mg "law" = some (.ref (f_law_k01 K))
  g_Setting : mg "Setting" = some (.ref (He.ga K "Setting"))
  sc_Setting : SlX.SCls K (He.ga K "Setting")
  si_Setting : SlX.SIsi K (He.ga K "Setting")
  is_Setting : IsC K mg (He.ga K "Setting") [("Setting", true)]
  sl_Setting_gap : SlX.Slot1 K (He.ga K "Setting") "gap" (He.ma K (He.ga K "Setting") "gap") 2
  sl_Setting_ties : SlX.Slot1 K (He.ga K "Setting") "ties" (He.ma K (He.ga K "Setting") "ties") 3
  sl_Setting_bounds : SlX.Slot1 K (He.ga K "Setting") "bounds" (He.ma K (He.ga K "Setting") "bounds") 0
  sl_Setting_cameras : SlX.Slot1 K (He.ga K "Setting") "cameras" (He.ma K (He.ga K "Setting") "cameras") 1
  me_Setting_len : Meth K (He.ga K "Setting") "__len__" (He.ma K (He.ga K "Setting") "__len__")
  me_Setting_shots : Meth K (He.ga K "Setting") "shots" (He.ma K (He.ga K "Setting") "shots")
  me_Setting_getitem : Meth K (He.ga K "Setting") "__getitem__" (He.ma K (He.ga K "Setting") "__getitem__")
  fi_Setting_getitem : PySem.W.fnIn K (He.ma K (He.ga K "Setting") "__getitem__") = true
  mk_Setting : Mk K (He.ga K "Setting") (He.ma K (He.ga K "Setting") "__init__")
  me_Setting_eq : Meth K (He.ga K "Setting") "__eq__" (He.ma K (He.ga K "Setting") "__eq__")
  nf_Setting : PySem.W.findIn K (.ref (He.ga K "Setting")) "__ne__" = some (some (.builtin "object.__ne__")) ∧ PySem.W.subIn K (.ref (He.ga K "Setting")) (.type "object") = some true ∧ NF K mg (He.ga K "Setting") ["Setting"]
theorem kb_Setting_3_gap {K : PySem.W.Frag} {mg : Str → Option Value} (fx : Fx K mg) : ∃ gs, KBn K fx.fd_m_Setting_init ["self", "cameras", "bounds", "ties", "gap"] (3 + 1) ["gap"] gs (fun vs zs => vs ++ zs) := by
  obtain ⟨its, h⟩ := fx.u_m_Setting_init.kbindsD (3 + 1) ["gap"] (ps := ["self", "cameras", "bounds", "ties", "gap"]) (fun us _ ws => us ++ ws) (by simp) (fun r1 _ r2 => r1.append r2) fun T kV doc pm an cdv ct us its ws l1 l2 l3 => (match us, its, ws, l1, l2, l3 with | [_, _, _, _], [_], [_], _, _, _ => ⟨_, rfl, rfl⟩)
  exact ⟨_, h⟩
theorem bi_l_begun {K : PySem.W.Frag} {mg : Str → Option Value} (fx : Fx K mg) : Binds K fx.fd_l_begun ["_law_script"] [] := fx.u_l_begun.binds fun _ _ _ _ _ _ us hl => match us, hl with | [_], _ => rfl
theorem okA_l_begun {P : Program} {w : World} {K : PySem.W.Frag} {mg : Str → Option Value} {base : Heap} (fx : Fx K mg) : FnG P w K mg base (L2.CX P w) 1 (f_l_begun K) fx.fd_l_begun ["_law_script"] (spF K mg (["_law_script"] : List Str).length (fnF (["_law_script", "_law_total", "_law_k", "_law_cell"] : List Str).length b_l_begun_den)) := by
  refine fnG_ok (k := 0) (body := b_l_begun_den) fx.u_l_begun sc_l_begun fun cdv A outer s H E hG hr tk hp => ?_
  refine ds_cons ?_ ?_
  · refine ds_set sc_l_begun.nd rfl (Or.inl v_l_begun_law_total) ?_ rfl (Or.inl rfl)
    exact d_int
  · refine ds_cons ?_ ?_
    · refine ds_for hp rfl ?_ ?_ ?_
      · refine di_enum g_l_begun_enumerate fx.n_enumerate ?_
        refine da_cons ?_ ?_
        · refine d_slice ?_ ?_ ?_
          · exact d_var 0 rfl (Or.inl v_l_begun_law_script)
          · exact dp_none
          · refine dp_some ?_
            exact d_int
        · exact da_nil
      · refine dg_tup rfl ?_
        refine dgs_cons ?_ ?_
        · exact dg_name sc_l_begun.nd rfl (Or.inl v_l_begun_law_k) (Or.inl rfl)
        · refine dgs_cons ?_ ?_
          · exact dg_name sc_l_begun.nd rfl (Or.inl v_l_begun_law_cell) (Or.inl rfl)
          · exact dgs_nil
      · refine ds_one ?_
        refine ds_set sc_l_begun.nd rfl (Or.inl v_l_begun_law_total) ?_ rfl (Or.inl rfl)
        refine d_op op_mod o2_mod ?_ ?_
        · refine d_Ty call_int1 b_int g_l_begun_int fx.n_int PyProof.Rows.boot_int ?_
          refine da_cons ?_ ?_
          · refine d_op op_mul o2_mul ?_ ?_
            · refine d_op op_addD o2_add ?_ ?_
              · refine d_op op_addD o2_add ?_ ?_
                · refine d_op op_addD o2_add ?_ ?_
                  · exact d_var 1 rfl (Or.inl v_l_begun_law_total)
                  · refine d_op op_mod o2_mod ?_ ?_
                    · refine d_Ty call_int1 b_int g_l_begun_int fx.n_int PyProof.Rows.boot_int ?_
                      refine da_cons ?_ ?_
                      · exact d_var 3 rfl (Or.inl v_l_begun_law_cell)
                      · exact da_nil
                    · exact d_int
                · refine d_op op_mul o2_mul ?_ ?_
                  · exact d_int
                  · exact d_var 2 rfl (Or.inl v_l_begun_law_k)
              · exact d_int
            · exact d_int
          · exact da_nil
        · exact d_int
    · refine ds_one ?_
      refine ds_ret ?_
      refine d_dict ?_ (by rfl) (by rfl) (fun z => by cases z) (by decide) (by rfl) (by decide +kernel)
      refine dps_cons ?_ ?_
      · refine d_lc (own := [("_law_cell", 3)]) rfl sc_l_begun.nd ?_ (blkOk_by (by rfl)) (fun _ _ _ _ _ => ?_) (fun _ _ _ _ _ => ?_) (fun _ _ _ _ _ => ?_) (tgIn_name (by decide))
        · refine di_seq ?_
          exact d_var 0 rfl (Or.inl v_l_begun_law_script)
        · exact dg_name sc_l_begun.nd rfl (Or.inl (blk_loc (by decide +kernel))) (Or.inr rfl)
        · refine dts_one ?_
          refine dt_cmp op_ge o2_ge ?_ ?_ (nomark _)
          · exact d_var 3 rfl (blk_vis (by decide +kernel))
          · refine d_op op_pow o2_pow ?_ ?_
            · exact d_int
            · exact d_int
        · exact d_var 3 rfl (blk_vis (by decide +kernel))
      · refine dps_cons ?_ ?_
        · exact d_var 1 rfl (Or.inl v_l_begun_law_total)
        · refine dps_cons ?_ ?_
          · exact d_int
          · exact dps_nil
theorem ok_l_begun {P : Program} {w : World} {K : PySem.W.Frag} {mg : Str → Option Value} {base : Heap} (fx : Fx K mg) : FnG P w K mg base (L2.CX P w) 1 (f_l_begun K) fx.fd_l_begun ["_law_script"] (spF K mg 1 F_l_begun) := okA_l_begun fx
theorem bi_l_draw {K : PySem.W.Frag} {mg : Str → Option Value} (fx : Fx K mg) : Binds K fx.fd_l_draw ["_law_m", "_law_top"] [] := fx.u_l_draw.binds fun _ _ _ _ _ _ us hl => match us, hl with | [_, _], _ => rfl
theorem okA_l_draw {P : Program} {w : World} {K : PySem.W.Frag} {mg : Str → Option Value} {base : Heap} (fx : Fx K mg) : FnG P w K mg base (L2.CX P w) 1 (f_l_draw K) fx.fd_l_draw ["_law_m", "_law_top"] (spF K mg (["_law_m", "_law_top"] : List Str).length (fnF (["_law_m", "_law_top", "_law_k", "_law_mixed", "_law_cell"] : List Str).length b_l_draw_den)) := by
  refine fnG_ok (k := 0) (body := b_l_draw_den) fx.u_l_draw sc_l_draw fun cdv A outer s H E hG hr tk hp => ?_
  refine ds_cons ?_ ?_
  · refine ds_while FUEL hp ?_ ?_
    · refine Dw.t ?_
      refine dw_and ?_ ?_
      · refine dt_cmp (op_neP hr.units) o2_ne ?_ ?_ (nomark _)
        · refine d_get hr ?_ (fun _ _ => rfl)
          exact d_var 0 rfl (Or.inl v_l_draw_law_m)
        · refine d_lst ?_
          exact da_nil
      · refine dw_and1 ?_
        refine dt_cmp (op_eqP hr.units) o2_eq ?_ ?_ (nomark _)
        · refine d_ix ?_ ?_ (fun _ _ => rfl)
          · refine d_get hr ?_ (fun _ _ => rfl)
            exact d_var 0 rfl (Or.inl v_l_draw_law_m)
          · exact d_int
        · exact d_int
    · refine ds_one ?_
      refine ds_put hr ?_ ?_ rfl
      · exact d_var 0 rfl (Or.inl v_l_draw_law_m)
      · refine d_slice ?_ ?_ ?_
        · refine d_get hr ?_ (fun _ _ => rfl)
          exact d_var 0 rfl (Or.inl v_l_draw_law_m)
        · refine dp_some ?_
          exact d_int
        · exact dp_none
  · refine ds_cons ?_ ?_
    · refine ds_if ?_ ?_ ?_
      · refine dt_cmp (op_neP hr.units) o2_ne ?_ ?_ (nomark _)
        · refine d_get hr ?_ (fun _ _ => rfl)
          exact d_var 0 rfl (Or.inl v_l_draw_law_m)
        · refine d_lst ?_
          exact da_nil
      · refine ds_cons ?_ ?_
        · refine ds_set sc_l_draw.nd rfl (Or.inl v_l_draw_law_cell) ?_ rfl (Or.inl rfl)
          refine d_ix ?_ ?_ (fun _ _ => rfl)
          · refine d_get hr ?_ (fun _ _ => rfl)
            exact d_var 0 rfl (Or.inl v_l_draw_law_m)
          · exact d_int
        · refine ds_cons ?_ ?_
          · refine ds_put hr ?_ ?_ rfl
            · exact d_var 0 rfl (Or.inl v_l_draw_law_m)
            · refine d_op op_addD o2_add ?_ ?_
              · refine d_lst ?_
                refine da_cons ?_ ?_
                · refine d_op op_fdivW o2_fdiv ?_ ?_
                  · exact d_var 4 rfl (Or.inl v_l_draw_law_cell)
                  · exact d_var 1 rfl (Or.inl v_l_draw_law_top)
                · exact da_nil
              · refine d_slice ?_ ?_ ?_
                · refine d_get hr ?_ (fun _ _ => rfl)
                  exact d_var 0 rfl (Or.inl v_l_draw_law_m)
                · refine dp_some ?_
                  exact d_int
                · exact dp_none
          · refine ds_one ?_
            refine ds_ret ?_
            refine d_op op_mod o2_mod ?_ ?_
            · refine d_Ty call_int1 b_int g_l_draw_int fx.n_int PyProof.Rows.boot_int ?_
              refine da_cons ?_ ?_
              · exact d_var 4 rfl (Or.inl v_l_draw_law_cell)
              · exact da_nil
            · exact d_var 1 rfl (Or.inl v_l_draw_law_top)
      · exact ds_nil
    · refine ds_cons ?_ ?_
      · refine ds_set sc_l_draw.nd rfl (Or.inl v_l_draw_law_k) ?_ rfl (Or.inl rfl)
        refine d_op op_addD o2_add ?_ ?_
        · refine d_get hr ?_ (fun _ _ => rfl)
          exact d_var 0 rfl (Or.inl v_l_draw_law_m)
        · exact d_int
      · refine ds_cons ?_ ?_
        · refine ds_put hr ?_ ?_ rfl
          · exact d_var 0 rfl (Or.inl v_l_draw_law_m)
          · exact d_var 2 rfl (Or.inl v_l_draw_law_k)
        · refine ds_cons ?_ ?_
          · refine ds_set sc_l_draw.nd rfl (Or.inl v_l_draw_law_mixed) ?_ rfl (Or.inl rfl)
            refine d_op op_mod o2_mod ?_ ?_
            · refine d_Ty call_int1 b_int g_l_draw_int fx.n_int PyProof.Rows.boot_int ?_
              refine da_cons ?_ ?_
              · refine d_op op_mul o2_mul ?_ ?_
                · refine d_op op_addD o2_add ?_ ?_
                  · refine d_op op_addD o2_add ?_ ?_
                    · refine d_get hr ?_ (fun _ _ => rfl)
                      exact d_var 0 rfl (Or.inl v_l_draw_law_m)
                    · refine d_op op_mul o2_mul ?_ ?_
                      · exact d_int
                      · exact d_var 2 rfl (Or.inl v_l_draw_law_k)
                  · refine d_op op_mul o2_mul ?_ ?_
                    · refine d_op op_mul o2_mul ?_ ?_
                      · exact d_int
                      · exact d_var 2 rfl (Or.inl v_l_draw_law_k)
                    · exact d_var 2 rfl (Or.inl v_l_draw_law_k)
                · exact d_int
              · exact da_nil
            · exact d_int
          · refine ds_one ?_
            refine ds_ret ?_
            refine d_op op_mod o2_mod ?_ ?_
            · refine d_Ty call_int1 b_int g_l_draw_int fx.n_int PyProof.Rows.boot_int ?_
              refine da_cons ?_ ?_
              · refine d_op op_fdivW o2_fdiv ?_ ?_
                · refine d_op op_mod o2_mod ?_ ?_
                  · refine d_Ty call_int1 b_int g_l_draw_int fx.n_int PyProof.Rows.boot_int ?_
                    refine da_cons ?_ ?_
                    · refine d_op op_addD o2_add ?_ ?_
                      · refine d_op op_mul o2_mul ?_ ?_
                        · exact d_var 3 rfl (Or.inl v_l_draw_law_mixed)
                        · exact d_int
                      · refine d_op op_mul o2_mul ?_ ?_
                        · exact d_int
                        · exact d_var 2 rfl (Or.inl v_l_draw_law_k)
                    · exact da_nil
                  · exact d_int
                · exact d_int
              · exact da_nil
            · exact d_var 1 rfl (Or.inl v_l_draw_law_top)
theorem ok_l_draw {P : Program} {w : World} {K : PySem.W.Frag} {mg : Str → Option Value} {base : Heap} (fx : Fx K mg) : FnG P w K mg base (L2.CX P w) 1 (f_l_draw K) fx.fd_l_draw ["_law_m", "_law_top"] (spF K mg 2 F_l_draw) := okA_l_draw fx
theorem bi_l_wide {K : PySem.W.Frag} {mg : Str → Option Value} (fx : Fx K mg) : Binds K fx.fd_l_wide ["_law_m", "_law_low", "_law_high"] [] := fx.u_l_wide.binds fun _ _ _ _ _ _ us hl => match us, hl with | [_, _, _], _ => rfl
theorem okA_l_wide {P : Program} {w : World} {K : PySem.W.Frag} {mg : Str → Option Value} {base : Heap} (fx : Fx K mg) : FnG P w K mg base (L2.CX P w) 2 (f_l_wide K) fx.fd_l_wide ["_law_m", "_law_low", "_law_high"] (spF K mg (["_law_m", "_law_low", "_law_high"] : List Str).length (fnF (["_law_m", "_law_low", "_law_high"] : List Str).length b_l_wide_den)) := by
  refine fnG_ok (k := 1) (body := b_l_wide_den) fx.u_l_wide sc_l_wide fun cdv A outer s H E hG hr tk hp => ?_
  refine ds_one ?_
  refine ds_ret ?_
  refine d_op op_addD o2_add ?_ ?_
  · exact d_var 1 rfl (Or.inl v_l_wide_law_low)
  · refine d_op op_mod o2_mod ?_ ?_
    · refine d_Ty call_int1 b_int g_l_wide_int fx.n_int PyProof.Rows.boot_int ?_
      refine da_cons ?_ ?_
      · refine d_op op_addD o2_add ?_ ?_
        · refine d_op op_mul o2_mul ?_ ?_
          · refine d_callG (ok_l_draw fx) hG (hr.mono (by decide)) g_l_wide_law_draw fx.g_l_draw fx.u_l_draw.kp (bi_l_draw fx) tk ?_
            refine da_cons ?_ ?_
            · exact d_var 0 rfl (Or.inl v_l_wide_law_m)
            · refine da_cons ?_ ?_
              · refine d_op op_pow o2_pow ?_ ?_
                · exact d_int
                · exact d_int
              · exact da_nil
          · refine d_op op_pow o2_pow ?_ ?_
            · exact d_int
            · exact d_int
        · refine d_callG (ok_l_draw fx) hG (hr.mono (by decide)) g_l_wide_law_draw fx.g_l_draw fx.u_l_draw.kp (bi_l_draw fx) tk ?_
          refine da_cons ?_ ?_
          · exact d_var 0 rfl (Or.inl v_l_wide_law_m)
          · refine da_cons ?_ ?_
            · refine d_op op_pow o2_pow ?_ ?_
              · exact d_int
              · exact d_int
            · exact da_nil
      · exact da_nil
    · refine d_op op_addD o2_add ?_ ?_
      · refine d_op op_sub o2_sub ?_ ?_
        · exact d_var 2 rfl (Or.inl v_l_wide_law_high)
        · exact d_var 1 rfl (Or.inl v_l_wide_law_low)
      · exact d_int
theorem ok_l_wide {P : Program} {w : World} {K : PySem.W.Frag} {mg : Str → Option Value} {base : Heap} (fx : Fx K mg) : FnG P w K mg base (L2.CX P w) 2 (f_l_wide K) fx.fd_l_wide ["_law_m", "_law_low", "_law_high"] (spF K mg 3 F_l_wide) := okA_l_wide fx
theorem bi_l_stamps {K : PySem.W.Frag} {mg : Str → Option Value} (fx : Fx K mg) : Binds K fx.fd_l_stamps ["_law_m", "_law_many", "_law_way"] [] := fx.u_l_stamps.binds fun _ _ _ _ _ _ us hl => match us, hl with | [_, _, _], _ => rfl
theorem okA_l_stamps {P : Program} {w : World} {K : PySem.W.Frag} {mg : Str → Option Value} {base : Heap} (fx : Fx K mg) : FnG P w K mg base (L2.CX P w) 3 (f_l_stamps K) fx.fd_l_stamps ["_law_m", "_law_many", "_law_way"] (spF K mg (["_law_m", "_law_many", "_law_way"] : List Str).length (fnF (["_law_m", "_law_many", "_law_way", "_law_base", "_law_k"] : List Str).length b_l_stamps_den)) := by
  refine fnG_ok (k := 2) (body := b_l_stamps_den) fx.u_l_stamps sc_l_stamps fun cdv A outer s H E hG hr tk hp => ?_
  refine ds_cons ?_ ?_
  · refine ds_if ?_ ?_ ?_
    · refine dt_cmp (op_eqP hr.units) o2_eq ?_ ?_ (nomark _)
      · exact d_var 2 rfl (Or.inl v_l_stamps_law_way)
      · exact d_int
    · refine ds_one ?_
      refine ds_ret ?_
      refine d_Ty call_tuple_of b_tuple g_l_stamps_tuple fx.n_tuple PyProof.Rows.boot_tuple ?_
      refine da_cons ?_ ?_
      · refine d_B cr_sortedI b_sortI g_l_stamps_sorted fx.n_sorted PyProof.Rows.boot_sorted ?_
        refine da_cons ?_ ?_
        · refine d_lc (own := [("_law_k", 4)]) rfl sc_l_stamps.nd ?_ (blkOk_by (by rfl)) (fun _ _ _ _ _ => ?_) (fun _ _ _ _ _ => ?_) (fun _ _ _ _ _ => ?_) (tgIn_name (by decide))
          · refine di_range1 g_l_stamps_range fx.n_range ?_
            refine da_cons ?_ ?_
            · exact d_var 1 rfl (Or.inl v_l_stamps_law_many)
            · exact da_nil
          · exact dg_name sc_l_stamps.nd rfl (Or.inl (blk_loc (by decide +kernel))) (Or.inr rfl)
          · exact dts_nil
          · refine d_callG (ok_l_draw fx) hG (hr.mono (by decide)) (blk_gl (by decide +kernel)) fx.g_l_draw fx.u_l_draw.kp (bi_l_draw fx) takes0 ?_
            refine da_cons ?_ ?_
            · exact d_var 0 rfl (blk_free (by decide +kernel))
            · refine da_cons ?_ ?_
              · exact d_int
              · exact da_nil
        · exact da_nil
      · exact da_nil
    · exact ds_nil
  · refine ds_cons ?_ ?_
    · refine ds_if ?_ ?_ ?_
      · refine dt_cmp (op_eqP hr.units) o2_eq ?_ ?_ (nomark _)
        · exact d_var 2 rfl (Or.inl v_l_stamps_law_way)
        · exact d_int
      · refine ds_one ?_
        refine ds_ret ?_
        refine d_Ty call_tuple_of b_tuple g_l_stamps_tuple fx.n_tuple PyProof.Rows.boot_tuple ?_
        refine da_cons ?_ ?_
        · refine d_B cr_sortedI b_sortI g_l_stamps_sorted fx.n_sorted PyProof.Rows.boot_sorted ?_
          refine da_cons ?_ ?_
          · refine d_lc (own := [("_law_k", 4)]) rfl sc_l_stamps.nd ?_ (blkOk_by (by rfl)) (fun _ _ _ _ _ => ?_) (fun _ _ _ _ _ => ?_) (fun _ _ _ _ _ => ?_) (tgIn_name (by decide))
            · refine di_range1 g_l_stamps_range fx.n_range ?_
              refine da_cons ?_ ?_
              · exact d_var 1 rfl (Or.inl v_l_stamps_law_many)
              · exact da_nil
            · exact dg_name sc_l_stamps.nd rfl (Or.inl (blk_loc (by decide +kernel))) (Or.inr rfl)
            · exact dts_nil
            · refine d_op op_sub o2_sub ?_ ?_
              · refine d_op op_addD o2_add ?_ ?_
                · refine d_op op_mul o2_mul ?_ ?_
                  · refine d_callG (ok_l_draw fx) hG (hr.mono (by decide)) (blk_gl (by decide +kernel)) fx.g_l_draw fx.u_l_draw.kp (bi_l_draw fx) takes0 ?_
                    refine da_cons ?_ ?_
                    · exact d_var 0 rfl (blk_free (by decide +kernel))
                    · refine da_cons ?_ ?_
                      · exact d_int
                      · exact da_nil
                  · exact d_int
                · refine d_callG (ok_l_draw fx) hG (hr.mono (by decide)) (blk_gl (by decide +kernel)) fx.g_l_draw fx.u_l_draw.kp (bi_l_draw fx) takes0 ?_
                  refine da_cons ?_ ?_
                  · exact d_var 0 rfl (blk_free (by decide +kernel))
                  · refine da_cons ?_ ?_
                    · exact d_int
                    · exact da_nil
              · exact d_int
          · exact da_nil
        · exact da_nil
      · exact ds_nil
    · refine ds_cons ?_ ?_
      · refine ds_if ?_ ?_ ?_
        · refine dt_cmp (op_eqP hr.units) o2_eq ?_ ?_ (nomark _)
          · exact d_var 2 rfl (Or.inl v_l_stamps_law_way)
          · exact d_int
        · refine ds_one ?_
          refine ds_ret ?_
          refine d_Ty call_tuple_of b_tuple g_l_stamps_tuple fx.n_tuple PyProof.Rows.boot_tuple ?_
          refine da_cons ?_ ?_
          · refine d_B cr_sortedI b_sortI g_l_stamps_sorted fx.n_sorted PyProof.Rows.boot_sorted ?_
            refine da_cons ?_ ?_
            · refine d_lc (own := [("_law_k", 4)]) rfl sc_l_stamps.nd ?_ (blkOk_by (by rfl)) (fun _ _ _ _ _ => ?_) (fun _ _ _ _ _ => ?_) (fun _ _ _ _ _ => ?_) (tgIn_name (by decide))
              · refine di_range1 g_l_stamps_range fx.n_range ?_
                refine da_cons ?_ ?_
                · exact d_var 1 rfl (Or.inl v_l_stamps_law_many)
                · exact da_nil
              · exact dg_name sc_l_stamps.nd rfl (Or.inl (blk_loc (by decide +kernel))) (Or.inr rfl)
              · exact dts_nil
              · refine d_callG (ok_l_wide fx) hG (hr.mono (by decide)) (blk_gl (by decide +kernel)) fx.g_l_wide fx.u_l_wide.kp (bi_l_wide fx) takes0 ?_
                refine da_cons ?_ ?_
                · exact d_var 0 rfl (blk_free (by decide +kernel))
                · refine da_cons ?_ ?_
                  · refine d_op op_sub o2_sub ?_ ?_
                    · exact d_int
                    · refine d_op op_pow o2_pow ?_ ?_
                      · exact d_int
                      · exact d_int
                  · refine da_cons ?_ ?_
                    · refine d_op op_pow o2_pow ?_ ?_
                      · exact d_int
                      · exact d_int
                    · exact da_nil
            · exact da_nil
          · exact da_nil
        · exact ds_nil
      · refine ds_cons ?_ ?_
        · refine ds_set sc_l_stamps.nd rfl (Or.inr c_l_stamps_law_base) ?_ rfl (Or.inl rfl)
          refine d_callG (ok_l_wide fx) hG (hr.mono (by decide)) g_l_stamps_law_wide fx.g_l_wide fx.u_l_wide.kp (bi_l_wide fx) tk ?_
          refine da_cons ?_ ?_
          · exact d_var 0 rfl (Or.inr (Or.inl c_l_stamps_law_m))
          · refine da_cons ?_ ?_
            · refine d_op op_sub o2_sub ?_ ?_
              · exact d_int
              · refine d_op op_mul o2_mul ?_ ?_
                · exact d_int
                · refine d_op op_pow o2_pow ?_ ?_
                  · exact d_int
                  · exact d_int
            · refine da_cons ?_ ?_
              · refine d_op op_mul o2_mul ?_ ?_
                · exact d_int
                · refine d_op op_pow o2_pow ?_ ?_
                  · exact d_int
                  · exact d_int
              · exact da_nil
        · refine ds_one ?_
          refine ds_ret ?_
          refine d_Ty call_tuple_of b_tuple g_l_stamps_tuple fx.n_tuple PyProof.Rows.boot_tuple ?_
          refine da_cons ?_ ?_
          · refine d_B cr_sortedI b_sortI g_l_stamps_sorted fx.n_sorted PyProof.Rows.boot_sorted ?_
            refine da_cons ?_ ?_
            · refine d_lc (own := [("_law_k", 4)]) rfl sc_l_stamps.nd ?_ (blkOk_by (by rfl)) (fun _ _ _ _ _ => ?_) (fun _ _ _ _ _ => ?_) (fun _ _ _ _ _ => ?_) (tgIn_name (by decide))
              · refine di_range1 g_l_stamps_range fx.n_range ?_
                refine da_cons ?_ ?_
                · exact d_var 1 rfl (Or.inl v_l_stamps_law_many)
                · exact da_nil
              · exact dg_name sc_l_stamps.nd rfl (Or.inl (blk_loc (by decide +kernel))) (Or.inr rfl)
              · exact dts_nil
              · refine d_op op_addD o2_add ?_ ?_
                · exact d_var 3 rfl (blk_free (by decide +kernel))
                · refine d_callG (ok_l_draw fx) hG (hr.mono (by decide)) (blk_gl (by decide +kernel)) fx.g_l_draw fx.u_l_draw.kp (bi_l_draw fx) takes0 ?_
                  refine da_cons ?_ ?_
                  · exact d_var 0 rfl (blk_free (by decide +kernel))
                  · refine da_cons ?_ ?_
                    · exact d_int
                    · exact da_nil
            · exact da_nil
          · exact da_nil
theorem ok_l_stamps {P : Program} {w : World} {K : PySem.W.Frag} {mg : Str → Option Value} {base : Heap} (fx : Fx K mg) : FnG P w K mg base (L2.CX P w) 3 (f_l_stamps K) fx.fd_l_stamps ["_law_m", "_law_many", "_law_way"] (spF K mg 3 F_l_stamps) := okA_l_stamps fx
theorem bi_l_cameras {K : PySem.W.Frag} {mg : Str → Option Value} (fx : Fx K mg) : Binds K fx.fd_l_cameras ["_law_m", "_law_most", "_law_shots_most", "_law_way"] [] := fx.u_l_cameras.binds fun _ _ _ _ _ _ us hl => match us, hl with | [_, _, _, _], _ => rfl
theorem okA_l_cameras {P : Program} {w : World} {K : PySem.W.Frag} {mg : Str → Option Value} {base : Heap} (fx : Fx K mg) : FnG P w K mg base (L2.CX P w) 4 (f_l_cameras K) fx.fd_l_cameras ["_law_m", "_law_most", "_law_shots_most", "_law_way"] (spF K mg (["_law_m", "_law_most", "_law_shots_most", "_law_way"] : List Str).length (fnF (["_law_m", "_law_most", "_law_shots_most", "_law_way", "_law_number", "_law_found", "_law_left", "_law_many"] : List Str).length b_l_cameras_den)) := by
  refine fnG_ok (k := 3) (body := b_l_cameras_den) fx.u_l_cameras sc_l_cameras fun cdv A outer s H E hG hr tk hp => ?_
  refine ds_cons ?_ ?_
  · refine ds_par2 rfl sc_l_cameras.nd rfl rfl (by decide) v_l_cameras_law_found v_l_cameras_law_left ?_ (by rfl) rfl
    refine dsl_ow ?_ ?_
    · refine df_lst ?_
      exact da_nil
    · refine dsl_sh ?_ ?_
      · exact d_var 2 rfl (Or.inl v_l_cameras_law_shots_most)
      · exact dsl_nil
  · refine ds_cons ?_ ?_
    · refine ds_for hp rfl ?_ ?_ ?_
      · refine di_range1 g_l_cameras_range fx.n_range ?_
        refine da_cons ?_ ?_
        · refine d_op op_addD o2_add ?_ ?_
          · exact d_int
          · refine d_callG (ok_l_draw fx) hG (hr.mono (by decide)) g_l_cameras_law_draw fx.g_l_draw fx.u_l_draw.kp (bi_l_draw fx) tk ?_
            refine da_cons ?_ ?_
            · exact d_var 0 rfl (Or.inl v_l_cameras_law_m)
            · refine da_cons ?_ ?_
              · exact d_var 1 rfl (Or.inl v_l_cameras_law_most)
              · exact da_nil
        · exact da_nil
      · exact dg_name sc_l_cameras.nd rfl (Or.inl v_l_cameras_law_number) (Or.inl rfl)
      · refine ds_cons ?_ ?_
        · refine ds_set sc_l_cameras.nd rfl (Or.inl v_l_cameras_law_many) ?_ rfl (Or.inl rfl)
          refine d_callG (ok_l_draw fx) hG (hr.mono (by decide)) g_l_cameras_law_draw fx.g_l_draw fx.u_l_draw.kp (bi_l_draw fx) tk ?_
          refine da_cons ?_ ?_
          · exact d_var 0 rfl (Or.inl v_l_cameras_law_m)
          · refine da_cons ?_ ?_
            · refine d_op op_addD o2_add ?_ ?_
              · refine d_ix ?_ ?_ (fun _ _ => rfl)
                · refine d_lst ?_
                  refine da_cons ?_ ?_
                  · refine d_B (call_min2 rfl) b_min2 g_l_cameras_min fx.n_min PyProof.Rows.boot_min ?_
                    refine da_cons ?_ ?_
                    · exact d_var 6 rfl (Or.inl v_l_cameras_law_left)
                    · refine da_cons ?_ ?_
                      · exact d_int
                      · exact da_nil
                  · refine da_cons ?_ ?_
                    · exact d_var 6 rfl (Or.inl v_l_cameras_law_left)
                    · exact da_nil
                · refine d_op op_fdivW o2_fdiv ?_ ?_
                  · refine d_callG (ok_l_draw fx) hG (hr.mono (by decide)) g_l_cameras_law_draw fx.g_l_draw fx.u_l_draw.kp (bi_l_draw fx) tk ?_
                    refine da_cons ?_ ?_
                    · exact d_var 0 rfl (Or.inl v_l_cameras_law_m)
                    · refine da_cons ?_ ?_
                      · exact d_int
                      · exact da_nil
                  · exact d_int
              · exact d_int
            · exact da_nil
        · refine ds_cons ?_ ?_
          · refine ds_app 5 ?_ rfl (Or.inl v_l_cameras_law_found)
            refine d_callG (ok_l_stamps fx) hG (hr.mono (by decide)) g_l_cameras_law_stamps fx.g_l_stamps fx.u_l_stamps.kp (bi_l_stamps fx) tk ?_
            refine da_cons ?_ ?_
            · exact d_var 0 rfl (Or.inl v_l_cameras_law_m)
            · refine da_cons ?_ ?_
              · exact d_var 7 rfl (Or.inl v_l_cameras_law_many)
              · refine da_cons ?_ ?_
                · exact d_var 3 rfl (Or.inl v_l_cameras_law_way)
                · exact da_nil
          · refine ds_one ?_
            refine ds_set sc_l_cameras.nd rfl (Or.inl v_l_cameras_law_left) ?_ rfl (Or.inl rfl)
            refine d_op op_sub o2_sub ?_ ?_
            · exact d_var 6 rfl (Or.inl v_l_cameras_law_left)
            · exact d_var 7 rfl (Or.inl v_l_cameras_law_many)
    · refine ds_one ?_
      refine ds_rel 5 ?_
      refine ds_ret ?_
      refine d_Ty call_tuple_of b_tuple g_l_cameras_tuple fx.n_tuple PyProof.Rows.boot_tuple ?_
      refine da_cons ?_ ?_
      · exact d_var 5 rfl (Or.inl v_l_cameras_law_found)
      · exact da_nil
theorem ok_l_cameras {P : Program} {w : World} {K : PySem.W.Frag} {mg : Str → Option Value} {base : Heap} (fx : Fx K mg) : FnG P w K mg base (L2.CX P w) 4 (f_l_cameras K) fx.fd_l_cameras ["_law_m", "_law_most", "_law_shots_most", "_law_way"] (spF K mg 4 F_l_cameras) := okA_l_cameras fx
theorem bi_l_shots {K : PySem.W.Frag} {mg : Str → Option Value} (fx : Fx K mg) : Binds K fx.fd_l_shots ["_law_cameras_here"] [] := fx.u_l_shots.binds fun _ _ _ _ _ _ us hl => match us, hl with | [_], _ => rfl
theorem okA_l_shots {P : Program} {w : World} {K : PySem.W.Frag} {mg : Str → Option Value} {base : Heap} (fx : Fx K mg) : FnG P w K mg base (L2.CX P w) 1 (f_l_shots K) fx.fd_l_shots ["_law_cameras_here"] (spF K mg (["_law_cameras_here"] : List Str).length (fnF (["_law_cameras_here", "_law_found", "_law_number", "_law_stamps_here", "_law_at"] : List Str).length b_l_shots_den)) := by
  refine fnG_ok (k := 0) (body := b_l_shots_den) fx.u_l_shots sc_l_shots fun cdv A outer s H E hG hr tk hp => ?_
  refine ds_cons ?_ ?_
  · refine ds_set sc_l_shots.nd rfl (Or.inl v_l_shots_law_found) ?_ rfl (Or.inl rfl)
    refine d_lst ?_
    exact da_nil
  · refine ds_cons ?_ ?_
    · refine ds_for hp rfl ?_ ?_ ?_
      · refine di_enum g_l_shots_enumerate fx.n_enumerate ?_
        refine da_cons ?_ ?_
        · exact d_var 0 rfl (Or.inl v_l_shots_law_cameras_here)
        · exact da_nil
      · refine dg_tup rfl ?_
        refine dgs_cons ?_ ?_
        · exact dg_name sc_l_shots.nd rfl (Or.inr c_l_shots_law_number) (Or.inl rfl)
        · refine dgs_cons ?_ ?_
          · exact dg_name sc_l_shots.nd rfl (Or.inl v_l_shots_law_stamps_here) (Or.inl rfl)
          · exact dgs_nil
      · refine ds_one ?_
        refine ds_set sc_l_shots.nd rfl (Or.inl v_l_shots_law_found) ?_ rfl (Or.inl rfl)
        refine d_op op_addD o2_add ?_ ?_
        · exact d_var 1 rfl (Or.inl v_l_shots_law_found)
        · refine d_lc (own := [("_law_at", 4)]) rfl sc_l_shots.nd ?_ (blkOk_by (by rfl)) (fun _ _ _ _ _ => ?_) (fun _ _ _ _ _ => ?_) (fun _ _ _ _ _ => ?_) (tgIn_name (by decide))
          · refine di_range1 g_l_shots_range fx.n_range ?_
            refine da_cons ?_ ?_
            · refine d_B call_len b_len g_l_shots_len fx.n_len PySem.boot_len ?_
              refine da_cons ?_ ?_
              · exact d_var 3 rfl (Or.inl v_l_shots_law_stamps_here)
              · exact da_nil
            · exact da_nil
          · exact dg_name sc_l_shots.nd rfl (Or.inl (blk_loc (by decide +kernel))) (Or.inr rfl)
          · exact dts_nil
          · refine d_tup ?_
            refine da_cons ?_ ?_
            · exact d_var 2 rfl (blk_free (by decide +kernel))
            · refine da_cons ?_ ?_
              · exact d_var 4 rfl (blk_vis (by decide +kernel))
              · exact da_nil
    · refine ds_one ?_
      refine ds_ret ?_
      exact d_var 1 rfl (Or.inl v_l_shots_law_found)
theorem ok_l_shots {P : Program} {w : World} {K : PySem.W.Frag} {mg : Str → Option Value} {base : Heap} (fx : Fx K mg) : FnG P w K mg base (L2.CX P w) 1 (f_l_shots K) fx.fd_l_shots ["_law_cameras_here"] (spF K mg 1 F_l_shots) := okA_l_shots fx
theorem bi_l_far {K : PySem.W.Frag} {mg : Str → Option Value} (fx : Fx K mg) : Binds K fx.fd_l_far ["_law_m"] [] := fx.u_l_far.binds fun _ _ _ _ _ _ us hl => match us, hl with | [_], _ => rfl
theorem okA_l_far {P : Program} {w : World} {K : PySem.W.Frag} {mg : Str → Option Value} {base : Heap} (fx : Fx K mg) : FnG P w K mg base (L2.CX P w) 5 (f_l_far K) fx.fd_l_far ["_law_m"] (spF K mg (["_law_m"] : List Str).length (fnF (["_law_m", "_law_cameras_here", "_law_stamps_here", "_law_k", "_law_bounds", "_law_ties", "_law_shots_here", "_law_ends"] : List Str).length b_l_far_den)) := by
  refine fnG_ok (k := 4) (body := b_l_far_den) fx.u_l_far sc_l_far fun cdv A outer s H E hG hr tk hp => ?_
  refine ds_cons ?_ ?_
  · refine ds_set sc_l_far.nd rfl (Or.inl v_l_far_law_cameras_here) ?_ rfl (Or.inl rfl)
    refine d_callG (ok_l_cameras fx) hG (hr.mono (by decide)) g_l_far_law_cameras fx.g_l_cameras fx.u_l_cameras.kp (bi_l_cameras fx) tk ?_
    refine da_cons ?_ ?_
    · exact d_var 0 rfl (Or.inl v_l_far_law_m)
    · refine da_cons ?_ ?_
      · exact d_int
      · refine da_cons ?_ ?_
        · exact d_int
        · refine da_cons ?_ ?_
          · refine d_callG (ok_l_draw fx) hG (hr.mono (by decide)) g_l_far_law_draw fx.g_l_draw fx.u_l_draw.kp (bi_l_draw fx) tk ?_
            refine da_cons ?_ ?_
            · exact d_var 0 rfl (Or.inl v_l_far_law_m)
            · refine da_cons ?_ ?_
              · exact d_int
              · exact da_nil
          · exact da_nil
  · refine ds_cons ?_ ?_
    · refine ds_par3 rfl sc_l_far.nd rfl rfl rfl (by decide) (by decide) (by decide) v_l_far_law_bounds v_l_far_law_ties v_l_far_law_shots_here ?_ (by rfl) rfl
      refine dsl_ow ?_ ?_
      · refine df_lst ?_
        exact da_nil
      · refine dsl_ow ?_ ?_
        · refine df_lst ?_
          exact da_nil
        · refine dsl_sh ?_ ?_
          · refine d_callG (ok_l_shots fx) hG (hr.mono (by decide)) g_l_far_law_shots fx.g_l_shots fx.u_l_shots.kp (bi_l_shots fx) tk ?_
            refine da_cons ?_ ?_
            · exact d_var 1 rfl (Or.inl v_l_far_law_cameras_here)
            · exact da_nil
          · exact dsl_nil
    · refine ds_cons ?_ ?_
      · refine ds_for hp rfl ?_ ?_ ?_
        · refine di_seq ?_
          exact d_var 1 rfl (Or.inl v_l_far_law_cameras_here)
        · exact dg_name sc_l_far.nd rfl (Or.inl v_l_far_law_stamps_here) (Or.inl rfl)
        · refine ds_cons ?_ ?_
          · refine ds_set sc_l_far.nd rfl (Or.inl v_l_far_law_ends) ?_ rfl (Or.inl rfl)
            refine d_B cr_sortedI b_sortI g_l_far_sorted fx.n_sorted PyProof.Rows.boot_sorted ?_
            refine da_cons ?_ ?_
            · refine d_lst ?_
              refine da_cons ?_ ?_
              · refine d_callG (ok_l_wide fx) hG (hr.mono (by decide)) g_l_far_law_wide fx.g_l_wide fx.u_l_wide.kp (bi_l_wide fx) tk ?_
                refine da_cons ?_ ?_
                · exact d_var 0 rfl (Or.inl v_l_far_law_m)
                · refine da_cons ?_ ?_
                  · refine d_op op_sub o2_sub ?_ ?_
                    · exact d_int
                    · refine d_op op_pow o2_pow ?_ ?_
                      · exact d_int
                      · exact d_int
                  · refine da_cons ?_ ?_
                    · refine d_op op_pow o2_pow ?_ ?_
                      · exact d_int
                      · exact d_int
                    · exact da_nil
              · refine da_cons ?_ ?_
                · refine d_op op_sub o2_sub ?_ ?_
                  · refine d_op op_mul o2_mul ?_ ?_
                    · refine d_op op_mul o2_mul ?_ ?_
                      · refine d_callG (ok_l_draw fx) hG (hr.mono (by decide)) g_l_far_law_draw fx.g_l_draw fx.u_l_draw.kp (bi_l_draw fx) tk ?_
                        refine da_cons ?_ ?_
                        · exact d_var 0 rfl (Or.inl v_l_far_law_m)
                        · refine da_cons ?_ ?_
                          · exact d_int
                          · exact da_nil
                      · exact d_int
                    · refine d_op op_pow o2_pow ?_ ?_
                      · exact d_int
                      · exact d_int
                  · refine d_op op_pow o2_pow ?_ ?_
                    · exact d_int
                    · exact d_int
                · exact da_nil
            · exact da_nil
          · refine ds_one ?_
            refine ds_app 4 ?_ rfl (Or.inl v_l_far_law_bounds)
            refine d_ix ?_ ?_ (fun _ _ => rfl)
            · refine d_lst ?_
              refine da_cons ?_ ?_
              · refine d_tup ?_
                refine da_cons ?_ ?_
                · exact d_int
                · refine da_cons ?_ ?_
                  · exact d_int
                  · exact da_nil
              · refine da_cons ?_ ?_
                · refine d_tup ?_
                  refine da_cons ?_ ?_
                  · refine d_ix ?_ ?_ (fun _ _ => rfl)
                    · exact d_var 7 rfl (Or.inl v_l_far_law_ends)
                    · exact d_int
                  · refine da_cons ?_ ?_
                    · refine d_ix ?_ ?_ (fun _ _ => rfl)
                      · exact d_var 7 rfl (Or.inl v_l_far_law_ends)
                      · exact d_int
                    · exact da_nil
                · exact da_nil
            · refine d_callG (ok_l_draw fx) hG (hr.mono (by decide)) g_l_far_law_draw fx.g_l_draw fx.u_l_draw.kp (bi_l_draw fx) tk ?_
              refine da_cons ?_ ?_
              · exact d_var 0 rfl (Or.inl v_l_far_law_m)
              · refine da_cons ?_ ?_
                · exact d_int
                · exact da_nil
      · refine ds_cons ?_ ?_
        · refine ds_for hp rfl ?_ ?_ ?_
          · refine di_range1 g_l_far_range fx.n_range ?_
            refine da_cons ?_ ?_
            · refine d_ite ?_ ?_ ?_
              · refine dt_cmp (op_neP hr.units) o2_ne ?_ ?_ (nomark _)
                · exact d_var 6 rfl (Or.inl v_l_far_law_shots_here)
                · refine d_lst ?_
                  exact da_nil
              · refine d_ix ?_ ?_ (fun _ _ => rfl)
                · refine d_lst ?_
                  refine da_cons ?_ ?_
                  · exact d_int
                  · refine da_cons ?_ ?_
                    · exact d_int
                    · refine da_cons ?_ ?_
                      · exact d_int
                      · refine da_cons ?_ ?_
                        · exact d_int
                        · exact da_nil
                · refine d_callG (ok_l_draw fx) hG (hr.mono (by decide)) g_l_far_law_draw fx.g_l_draw fx.u_l_draw.kp (bi_l_draw fx) tk ?_
                  refine da_cons ?_ ?_
                  · exact d_var 0 rfl (Or.inl v_l_far_law_m)
                  · refine da_cons ?_ ?_
                    · exact d_int
                    · exact da_nil
              · exact d_int
            · exact da_nil
          · exact dg_name sc_l_far.nd rfl (Or.inl v_l_far_law_k) (Or.inl rfl)
          · refine ds_cons ?_ ?_
            · refine ds_set sc_l_far.nd rfl (Or.inl v_l_far_law_ends) ?_ rfl (Or.inl rfl)
              refine d_B cr_sortedI b_sortI g_l_far_sorted fx.n_sorted PyProof.Rows.boot_sorted ?_
              refine da_cons ?_ ?_
              · refine d_lst ?_
                refine da_cons ?_ ?_
                · refine d_callG (ok_l_wide fx) hG (hr.mono (by decide)) g_l_far_law_wide fx.g_l_wide fx.u_l_wide.kp (bi_l_wide fx) tk ?_
                  refine da_cons ?_ ?_
                  · exact d_var 0 rfl (Or.inl v_l_far_law_m)
                  · refine da_cons ?_ ?_
                    · refine d_op op_sub o2_sub ?_ ?_
                      · exact d_int
                      · refine d_op op_pow o2_pow ?_ ?_
                        · exact d_int
                        · exact d_int
                    · refine da_cons ?_ ?_
                      · refine d_op op_pow o2_pow ?_ ?_
                        · exact d_int
                        · exact d_int
                      · exact da_nil
                · refine da_cons ?_ ?_
                  · refine d_op op_sub o2_sub ?_ ?_
                    · refine d_op op_mul o2_mul ?_ ?_
                      · refine d_op op_mul o2_mul ?_ ?_
                        · refine d_callG (ok_l_draw fx) hG (hr.mono (by decide)) g_l_far_law_draw fx.g_l_draw fx.u_l_draw.kp (bi_l_draw fx) tk ?_
                          refine da_cons ?_ ?_
                          · exact d_var 0 rfl (Or.inl v_l_far_law_m)
                          · refine da_cons ?_ ?_
                            · exact d_int
                            · exact da_nil
                        · exact d_int
                      · refine d_op op_pow o2_pow ?_ ?_
                        · exact d_int
                        · exact d_int
                    · refine d_op op_pow o2_pow ?_ ?_
                      · exact d_int
                      · exact d_int
                  · exact da_nil
              · exact da_nil
            · refine ds_one ?_
              refine ds_app 5 ?_ rfl (Or.inl v_l_far_law_ties)
              refine d_tup ?_
              refine da_cons ?_ ?_
              · refine d_ix ?_ ?_ (fun _ _ => rfl)
                · exact d_var 6 rfl (Or.inl v_l_far_law_shots_here)
                · refine d_callG (ok_l_draw fx) hG (hr.mono (by decide)) g_l_far_law_draw fx.g_l_draw fx.u_l_draw.kp (bi_l_draw fx) tk ?_
                  refine da_cons ?_ ?_
                  · exact d_var 0 rfl (Or.inl v_l_far_law_m)
                  · refine da_cons ?_ ?_
                    · refine d_B call_len b_len g_l_far_len fx.n_len PySem.boot_len ?_
                      refine da_cons ?_ ?_
                      · exact d_var 6 rfl (Or.inl v_l_far_law_shots_here)
                      · exact da_nil
                    · exact da_nil
              · refine da_cons ?_ ?_
                · refine d_ix ?_ ?_ (fun _ _ => rfl)
                  · exact d_var 6 rfl (Or.inl v_l_far_law_shots_here)
                  · refine d_callG (ok_l_draw fx) hG (hr.mono (by decide)) g_l_far_law_draw fx.g_l_draw fx.u_l_draw.kp (bi_l_draw fx) tk ?_
                    refine da_cons ?_ ?_
                    · exact d_var 0 rfl (Or.inl v_l_far_law_m)
                    · refine da_cons ?_ ?_
                      · refine d_B call_len b_len g_l_far_len fx.n_len PySem.boot_len ?_
                        refine da_cons ?_ ?_
                        · exact d_var 6 rfl (Or.inl v_l_far_law_shots_here)
                        · exact da_nil
                      · exact da_nil
                · refine da_cons ?_ ?_
                  · refine d_ix ?_ ?_ (fun _ _ => rfl)
                    · exact d_var 7 rfl (Or.inl v_l_far_law_ends)
                    · exact d_int
                  · refine da_cons ?_ ?_
                    · refine d_ix ?_ ?_ (fun _ _ => rfl)
                      · exact d_var 7 rfl (Or.inl v_l_far_law_ends)
                      · exact d_int
                    · exact da_nil
        · refine ds_one ?_
          refine ds_rel 5 ?_
          refine ds_rel 4 ?_
          refine ds_ret ?_
          refine d_tup ?_
          refine da_cons ?_ ?_
          · exact d_var 1 rfl (Or.inl v_l_far_law_cameras_here)
          · refine da_cons ?_ ?_
            · refine d_Ty call_tuple_of b_tuple g_l_far_tuple fx.n_tuple PyProof.Rows.boot_tuple ?_
              refine da_cons ?_ ?_
              · exact d_var 4 rfl (Or.inl v_l_far_law_bounds)
              · exact da_nil
            · refine da_cons ?_ ?_
              · refine d_Ty call_tuple_of b_tuple g_l_far_tuple fx.n_tuple PyProof.Rows.boot_tuple ?_
                refine da_cons ?_ ?_
                · exact d_var 5 rfl (Or.inl v_l_far_law_ties)
                · exact da_nil
              · refine da_cons ?_ ?_
                · refine d_ix ?_ ?_ (fun _ _ => rfl)
                  · refine d_lst ?_
                    refine da_cons ?_ ?_
                    · refine d_op op_addD o2_add ?_ ?_
                      · exact d_int
                      · refine d_callG (ok_l_draw fx) hG (hr.mono (by decide)) g_l_far_law_draw fx.g_l_draw fx.u_l_draw.kp (bi_l_draw fx) tk ?_
                        refine da_cons ?_ ?_
                        · exact d_var 0 rfl (Or.inl v_l_far_law_m)
                        · refine da_cons ?_ ?_
                          · exact d_int
                          · exact da_nil
                    · refine da_cons ?_ ?_
                      · refine d_callG (ok_l_wide fx) hG (hr.mono (by decide)) g_l_far_law_wide fx.g_l_wide fx.u_l_wide.kp (bi_l_wide fx) tk ?_
                        refine da_cons ?_ ?_
                        · exact d_var 0 rfl (Or.inl v_l_far_law_m)
                        · refine da_cons ?_ ?_
                          · exact d_int
                          · refine da_cons ?_ ?_
                            · refine d_op op_pow o2_pow ?_ ?_
                              · exact d_int
                              · exact d_int
                            · exact da_nil
                      · exact da_nil
                  · refine d_callG (ok_l_draw fx) hG (hr.mono (by decide)) g_l_far_law_draw fx.g_l_draw fx.u_l_draw.kp (bi_l_draw fx) tk ?_
                    refine da_cons ?_ ?_
                    · exact d_var 0 rfl (Or.inl v_l_far_law_m)
                    · refine da_cons ?_ ?_
                      · exact d_int
                      · exact da_nil
                · exact da_nil
theorem ok_l_far {P : Program} {w : World} {K : PySem.W.Frag} {mg : Str → Option Value} {base : Heap} (fx : Fx K mg) : FnG P w K mg base (L2.CX P w) 5 (f_l_far K) fx.fd_l_far ["_law_m"] (spF K mg 1 F_l_far) := okA_l_far fx
theorem bi_p_is_whole {K : PySem.W.Frag} {mg : Str → Option Value} (fx : Fx K mg) : Binds K fx.fd_p_is_whole ["value", "least", "most"] [] := fx.u_p_is_whole.binds fun _ _ _ _ _ _ us hl => match us, hl with | [_, _, _], _ => rfl
theorem okA_p_is_whole {P : Program} {w : World} {K : PySem.W.Frag} {mg : Str → Option Value} {base : Heap} (fx : Fx K mg) : FnG P w K mg base (L2.CX P w) 1 (f_p_is_whole K) fx.fd_p_is_whole ["value", "least", "most"] (spF K mg (["value", "least", "most"] : List Str).length (fnF (["value", "least", "most"] : List Str).length b_p_is_whole_den)) := by
  refine fnG_ok (k := 0) (body := b_p_is_whole_den) fx.u_p_is_whole sc_p_is_whole fun cdv A outer s H E hG hr tk hp => ?_
  refine ds_one ?_
  refine ds_ret ?_
  refine d_and ?_ ?_
  · refine d_isi g_p_is_whole_isinstance fx.n_isinstance ?_ g_p_is_whole_int fx.n_int PyProof.Rows.boot_int
    exact d_var 0 rfl (Or.inl v_p_is_whole_value)
  · refine d_and ?_ ?_
    · refine d_not ?_
      refine d_isi g_p_is_whole_isinstance fx.n_isinstance ?_ g_p_is_whole_bool fx.n_bool PyProof.Rows.boot_bool
      exact d_var 0 rfl (Or.inl v_p_is_whole_value)
    · refine d_one ?_
      refine d_chain op_le op_le o2_le o2_le ?_ ?_ ?_
      · exact d_var 1 rfl (Or.inl v_p_is_whole_least)
      · exact d_var 0 rfl (Or.inl v_p_is_whole_value)
      · exact d_var 2 rfl (Or.inl v_p_is_whole_most)
theorem ok_p_is_whole {P : Program} {w : World} {K : PySem.W.Frag} {mg : Str → Option Value} {base : Heap} (fx : Fx K mg) : FnG P w K mg base (L2.CX P w) 1 (f_p_is_whole K) fx.fd_p_is_whole ["value", "least", "most"] (spF K mg 3 F_p_is_whole) := okA_p_is_whole fx
theorem bi_p_need_cameras {K : PySem.W.Frag} {mg : Str → Option Value} (fx : Fx K mg) : Binds K fx.fd_p_need_cameras ["cameras"] [] := fx.u_p_need_cameras.binds fun _ _ _ _ _ _ us hl => match us, hl with | [_], _ => rfl
theorem okA_p_need_cameras {P : Program} {w : World} {K : PySem.W.Frag} {mg : Str → Option Value} {base : Heap} (fx : Fx K mg) : FnG P w K mg base (L2.CX P w) 2 (f_p_need_cameras K) fx.fd_p_need_cameras ["cameras"] (spF K mg (["cameras"] : List Str).length (fnF (["cameras", "number", "stamps", "at", "stamp"] : List Str).length b_p_need_cameras_den)) := by
  refine fnG_ok (k := 1) (body := b_p_need_cameras_den) fx.u_p_need_cameras sc_p_need_cameras fun cdv A outer s H E hG hr tk hp => ?_
  refine ds_cons ?_ ?_
  · refine ds_if ?_ ?_ ?_
    · refine Dw.t ?_
      refine dw_or ?_ ?_
      · refine dt_not ?_
        refine dt_val ?_
        refine d_isi g_p_need_cameras_isinstance fx.n_isinstance ?_ g_p_need_cameras_tuple fx.n_tuple PyProof.Rows.boot_tuple
        exact d_var 0 rfl (Or.inl v_p_need_cameras_cameras)
      · refine dw_or1 ?_
        refine dt_not ?_
        refine dt_chain op_le op_le o2_le o2_le ?_ ?_ ?_
        · exact d_int
        · refine d_B call_len b_len g_p_need_cameras_len fx.n_len PySem.boot_len ?_
          refine da_cons ?_ ?_
          · exact d_var 0 rfl (Or.inl v_p_need_cameras_cameras)
          · exact da_nil
        · exact d_glob (d := .int 3) (v := .int 3) g_p_need_cameras_MOST_CAMERAS fx.c_MOST_CAMERAS ⟨_, rfl⟩ rfl
    · refine ds_one ?_
      exact ds_bad
    · exact ds_nil
  · refine ds_cons ?_ ?_
    · refine ds_for hp rfl ?_ ?_ ?_
      · refine di_enum g_p_need_cameras_enumerate fx.n_enumerate ?_
        refine da_cons ?_ ?_
        · exact d_var 0 rfl (Or.inl v_p_need_cameras_cameras)
        · exact da_nil
      · refine dg_tup rfl ?_
        refine dgs_cons ?_ ?_
        · exact dg_name sc_p_need_cameras.nd rfl (Or.inl v_p_need_cameras_number) (Or.inl rfl)
        · refine dgs_cons ?_ ?_
          · exact dg_name sc_p_need_cameras.nd rfl (Or.inl v_p_need_cameras_stamps) (Or.inl rfl)
          · exact dgs_nil
      · refine ds_one ?_
        refine ds_if ?_ ?_ ?_
        · refine dt_not ?_
          refine dt_val ?_
          refine d_isi g_p_need_cameras_isinstance fx.n_isinstance ?_ g_p_need_cameras_tuple fx.n_tuple PyProof.Rows.boot_tuple
          exact d_var 2 rfl (Or.inl v_p_need_cameras_stamps)
        · refine ds_one ?_
          exact ds_bad
        · exact ds_nil
    · refine ds_cons ?_ ?_
      · refine ds_for hp rfl ?_ ?_ ?_
        · refine di_enum g_p_need_cameras_enumerate fx.n_enumerate ?_
          refine da_cons ?_ ?_
          · exact d_var 0 rfl (Or.inl v_p_need_cameras_cameras)
          · exact da_nil
        · refine dg_tup rfl ?_
          refine dgs_cons ?_ ?_
          · exact dg_name sc_p_need_cameras.nd rfl (Or.inl v_p_need_cameras_number) (Or.inl rfl)
          · refine dgs_cons ?_ ?_
            · exact dg_name sc_p_need_cameras.nd rfl (Or.inl v_p_need_cameras_stamps) (Or.inl rfl)
            · exact dgs_nil
        · refine ds_one ?_
          refine ds_for hp rfl ?_ ?_ ?_
          · refine di_enum g_p_need_cameras_enumerate fx.n_enumerate ?_
            refine da_cons ?_ ?_
            · exact d_var 2 rfl (Or.inl v_p_need_cameras_stamps)
            · exact da_nil
          · refine dg_tup rfl ?_
            refine dgs_cons ?_ ?_
            · exact dg_name sc_p_need_cameras.nd rfl (Or.inl v_p_need_cameras_at) (Or.inl rfl)
            · refine dgs_cons ?_ ?_
              · exact dg_name sc_p_need_cameras.nd rfl (Or.inl v_p_need_cameras_stamp) (Or.inl rfl)
              · exact dgs_nil
          · refine ds_one ?_
            refine ds_if ?_ ?_ ?_
            · refine Dw.t ?_
              refine dw_or ?_ ?_
              · refine dt_not ?_
                refine dt_val ?_
                refine d_callG (ok_p_is_whole fx) hG (hr.mono (by decide)) g_p_need_cameras_is_whole fx.g_p_is_whole fx.u_p_is_whole.kp (bi_p_is_whole fx) tk ?_
                refine da_cons ?_ ?_
                · exact d_var 4 rfl (Or.inl v_p_need_cameras_stamp)
                · refine da_cons ?_ ?_
                  · refine d_un un_neg o1_neg ?_
                    exact d_glob (d := .int 1000000000) (v := .int 1000000000) g_p_need_cameras_FAR fx.c_FAR ⟨_, rfl⟩ rfl
                  · refine da_cons ?_ ?_
                    · exact d_glob (d := .int 1000000000) (v := .int 1000000000) g_p_need_cameras_FAR fx.c_FAR ⟨_, rfl⟩ rfl
                    · exact da_nil
              · refine dw_or1 ?_
                refine Dw.t ?_
                refine dw_and ?_ ?_
                · refine dt_cmp op_gt o2_gt ?_ ?_ (nomark _)
                  · exact d_var 3 rfl (Or.inl v_p_need_cameras_at)
                  · exact d_int
                · refine dw_and1 ?_
                  refine dt_cmp op_lt o2_lt ?_ ?_ (nomark _)
                  · exact d_var 4 rfl (Or.inl v_p_need_cameras_stamp)
                  · refine d_ix ?_ ?_ (fun _ _ => rfl)
                    · exact d_var 2 rfl (Or.inl v_p_need_cameras_stamps)
                    · refine d_op op_sub o2_sub ?_ ?_
                      · exact d_var 3 rfl (Or.inl v_p_need_cameras_at)
                      · exact d_int
            · refine ds_one ?_
              exact ds_bad
            · exact ds_nil
      · refine ds_one ?_
        refine ds_if ?_ ?_ ?_
        · refine dt_cmp op_gt o2_gt ?_ ?_ (nomark _)
          · refine d_B (cr_sum rfl) b_sum g_p_need_cameras_sum fx.n_sum PyProof.Rows.boot_sum ?_
            refine da_cons ?_ ?_
            · refine d_lc (own := [("stamps", 2)]) rfl sc_p_need_cameras.nd ?_ (blkOk_by (by rfl)) (fun _ _ _ _ _ => ?_) (fun _ _ _ _ _ => ?_) (fun _ _ _ _ _ => ?_) (tgIn_name (by decide))
              · refine di_seq ?_
                exact d_var 0 rfl (Or.inl v_p_need_cameras_cameras)
              · exact dg_name sc_p_need_cameras.nd rfl (Or.inl (blk_loc (by decide +kernel))) (Or.inr rfl)
              · exact dts_nil
              · refine d_B call_len b_len (blk_gl (by decide +kernel)) fx.n_len PySem.boot_len ?_
                refine da_cons ?_ ?_
                · exact d_var 2 rfl (blk_vis (by decide +kernel))
                · exact da_nil
            · exact da_nil
          · exact d_glob (d := .int 12) (v := .int 12) g_p_need_cameras_MOST_SHOTS fx.c_MOST_SHOTS ⟨_, rfl⟩ rfl
        · refine ds_one ?_
          exact ds_bad
        · exact ds_nil
theorem ok_p_need_cameras {P : Program} {w : World} {K : PySem.W.Frag} {mg : Str → Option Value} {base : Heap} (fx : Fx K mg) : FnG P w K mg base (L2.CX P w) 2 (f_p_need_cameras K) fx.fd_p_need_cameras ["cameras"] (spF K mg 1 F_p_need_cameras) := okA_p_need_cameras fx
theorem bi_p_is_pair {K : PySem.W.Frag} {mg : Str → Option Value} (fx : Fx K mg) : Binds K fx.fd_p_is_pair ["value"] [] := fx.u_p_is_pair.binds fun _ _ _ _ _ _ us hl => match us, hl with | [_], _ => rfl
theorem okA_p_is_pair {P : Program} {w : World} {K : PySem.W.Frag} {mg : Str → Option Value} {base : Heap} (fx : Fx K mg) : FnG P w K mg base (L2.CX P w) 1 (f_p_is_pair K) fx.fd_p_is_pair ["value"] (spF K mg (["value"] : List Str).length (fnF (["value"] : List Str).length b_p_is_pair_den)) := by
  refine fnG_ok (k := 0) (body := b_p_is_pair_den) fx.u_p_is_pair sc_p_is_pair fun cdv A outer s H E hG hr tk hp => ?_
  refine ds_one ?_
  refine ds_ret ?_
  refine d_and ?_ ?_
  · refine d_isi g_p_is_pair_isinstance fx.n_isinstance ?_ g_p_is_pair_tuple fx.n_tuple PyProof.Rows.boot_tuple
    exact d_var 0 rfl (Or.inl v_p_is_pair_value)
  · refine d_one ?_
    refine d_cmp (op_eqP hr.units) o2_eq ?_ ?_ (nomark _)
    · refine d_B call_len b_len g_p_is_pair_len fx.n_len PySem.boot_len ?_
      refine da_cons ?_ ?_
      · exact d_var 0 rfl (Or.inl v_p_is_pair_value)
      · exact da_nil
    · exact d_int
theorem ok_p_is_pair {P : Program} {w : World} {K : PySem.W.Frag} {mg : Str → Option Value} {base : Heap} (fx : Fx K mg) : FnG P w K mg base (L2.CX P w) 1 (f_p_is_pair K) fx.fd_p_is_pair ["value"] (spF K mg 1 F_p_is_pair) := okA_p_is_pair fx
theorem bi_p_are_bounds {K : PySem.W.Frag} {mg : Str → Option Value} (fx : Fx K mg) : Binds K fx.fd_p_are_bounds ["value"] [] := fx.u_p_are_bounds.binds fun _ _ _ _ _ _ us hl => match us, hl with | [_], _ => rfl
theorem okA_p_are_bounds {P : Program} {w : World} {K : PySem.W.Frag} {mg : Str → Option Value} {base : Heap} (fx : Fx K mg) : FnG P w K mg base (L2.CX P w) 2 (f_p_are_bounds K) fx.fd_p_are_bounds ["value"] (spF K mg (["value"] : List Str).length (fnF (["value", "one"] : List Str).length b_p_are_bounds_den)) := by
  refine fnG_ok (k := 1) (body := b_p_are_bounds_den) fx.u_p_are_bounds sc_p_are_bounds fun cdv A outer s H E hG hr tk hp => ?_
  refine ds_one ?_
  refine ds_ret ?_
  refine d_and ?_ ?_
  · refine d_callG (ok_p_is_pair fx) hG (hr.mono (by decide)) g_p_are_bounds_is_pair fx.g_p_is_pair fx.u_p_is_pair.kp (bi_p_is_pair fx) tk ?_
    refine da_cons ?_ ?_
    · exact d_var 0 rfl (Or.inl v_p_are_bounds_value)
    · exact da_nil
  · refine d_and ?_ ?_
    · refine d_B (cr_all rfl) b_all g_p_are_bounds_all fx.n_all PyProof.Rows.boot_all ?_
      refine da_cons ?_ ?_
      · refine d_lc (own := [("one", 1)]) rfl sc_p_are_bounds.nd ?_ (blkOk_by (by rfl)) (fun _ _ _ _ _ => ?_) (fun _ _ _ _ _ => ?_) (fun _ _ _ _ _ => ?_) (tgIn_name (by decide))
        · refine di_seq ?_
          exact d_var 0 rfl (Or.inl v_p_are_bounds_value)
        · exact dg_name sc_p_are_bounds.nd rfl (Or.inl (blk_loc (by decide +kernel))) (Or.inr rfl)
        · exact dts_nil
        · refine d_callG (ok_p_is_whole fx) hG (hr.mono (by decide)) (blk_gl (by decide +kernel)) fx.g_p_is_whole fx.u_p_is_whole.kp (bi_p_is_whole fx) takes0 ?_
          refine da_cons ?_ ?_
          · exact d_var 1 rfl (blk_vis (by decide +kernel))
          · refine da_cons ?_ ?_
            · refine d_un un_neg o1_neg ?_
              exact d_glob (d := .int 1000000000) (v := .int 1000000000) (blk_gl (by decide +kernel)) fx.c_FAR ⟨_, rfl⟩ rfl
            · refine da_cons ?_ ?_
              · exact d_glob (d := .int 1000000000) (v := .int 1000000000) (blk_gl (by decide +kernel)) fx.c_FAR ⟨_, rfl⟩ rfl
              · exact da_nil
      · exact da_nil
    · refine d_one ?_
      refine d_cmp op_le o2_le ?_ ?_ (nomark _)
      · refine d_ix ?_ ?_ (fun _ _ => rfl)
        · exact d_var 0 rfl (Or.inl v_p_are_bounds_value)
        · exact d_int
      · refine d_ix ?_ ?_ (fun _ _ => rfl)
        · exact d_var 0 rfl (Or.inl v_p_are_bounds_value)
        · exact d_int
theorem ok_p_are_bounds {P : Program} {w : World} {K : PySem.W.Frag} {mg : Str → Option Value} {base : Heap} (fx : Fx K mg) : FnG P w K mg base (L2.CX P w) 2 (f_p_are_bounds K) fx.fd_p_are_bounds ["value"] (spF K mg 1 F_p_are_bounds) := okA_p_are_bounds fx
theorem bi_p_is_camera {K : PySem.W.Frag} {mg : Str → Option Value} (fx : Fx K mg) : Binds K fx.fd_p_is_camera ["cameras", "value"] [] := fx.u_p_is_camera.binds fun _ _ _ _ _ _ us hl => match us, hl with | [_, _], _ => rfl
theorem okA_p_is_camera {P : Program} {w : World} {K : PySem.W.Frag} {mg : Str → Option Value} {base : Heap} (fx : Fx K mg) : FnG P w K mg base (L2.CX P w) 2 (f_p_is_camera K) fx.fd_p_is_camera ["cameras", "value"] (spF K mg (["cameras", "value"] : List Str).length (fnF (["cameras", "value"] : List Str).length b_p_is_camera_den)) := by
  refine fnG_ok (k := 1) (body := b_p_is_camera_den) fx.u_p_is_camera sc_p_is_camera fun cdv A outer s H E hG hr tk hp => ?_
  refine ds_one ?_
  refine ds_ret ?_
  refine d_callG (ok_p_is_whole fx) hG (hr.mono (by decide)) g_p_is_camera_is_whole fx.g_p_is_whole fx.u_p_is_whole.kp (bi_p_is_whole fx) tk ?_
  refine da_cons ?_ ?_
  · exact d_var 1 rfl (Or.inl v_p_is_camera_value)
  · refine da_cons ?_ ?_
    · exact d_int
    · refine da_cons ?_ ?_
      · refine d_op op_sub o2_sub ?_ ?_
        · refine d_B call_len b_len g_p_is_camera_len fx.n_len PySem.boot_len ?_
          refine da_cons ?_ ?_
          · exact d_var 0 rfl (Or.inl v_p_is_camera_cameras)
          · exact da_nil
        · exact d_int
      · exact da_nil
theorem ok_p_is_camera {P : Program} {w : World} {K : PySem.W.Frag} {mg : Str → Option Value} {base : Heap} (fx : Fx K mg) : FnG P w K mg base (L2.CX P w) 2 (f_p_is_camera K) fx.fd_p_is_camera ["cameras", "value"] (spF K mg 2 F_p_is_camera) := okA_p_is_camera fx
theorem bi_p_is_shot {K : PySem.W.Frag} {mg : Str → Option Value} (fx : Fx K mg) : Binds K fx.fd_p_is_shot ["cameras", "value"] [] := fx.u_p_is_shot.binds fun _ _ _ _ _ _ us hl => match us, hl with | [_, _], _ => rfl
theorem okA_p_is_shot {P : Program} {w : World} {K : PySem.W.Frag} {mg : Str → Option Value} {base : Heap} (fx : Fx K mg) : FnG P w K mg base (L2.CX P w) 3 (f_p_is_shot K) fx.fd_p_is_shot ["cameras", "value"] (spF K mg (["cameras", "value"] : List Str).length (fnF (["cameras", "value"] : List Str).length b_p_is_shot_den)) := by
  refine fnG_ok (k := 2) (body := b_p_is_shot_den) fx.u_p_is_shot sc_p_is_shot fun cdv A outer s H E hG hr tk hp => ?_
  refine ds_one ?_
  refine ds_ret ?_
  refine d_and ?_ ?_
  · refine d_callG (ok_p_is_pair fx) hG (hr.mono (by decide)) g_p_is_shot_is_pair fx.g_p_is_pair fx.u_p_is_pair.kp (bi_p_is_pair fx) tk ?_
    refine da_cons ?_ ?_
    · exact d_var 1 rfl (Or.inl v_p_is_shot_value)
    · exact da_nil
  · refine d_and ?_ ?_
    · refine d_callG (ok_p_is_camera fx) hG (hr.mono (by decide)) g_p_is_shot_is_camera fx.g_p_is_camera fx.u_p_is_camera.kp (bi_p_is_camera fx) tk ?_
      refine da_cons ?_ ?_
      · exact d_var 0 rfl (Or.inl v_p_is_shot_cameras)
      · refine da_cons ?_ ?_
        · refine d_ix ?_ ?_ (fun _ _ => rfl)
          · exact d_var 1 rfl (Or.inl v_p_is_shot_value)
          · exact d_int
        · exact da_nil
    · refine d_one ?_
      refine d_callG (ok_p_is_whole fx) hG (hr.mono (by decide)) g_p_is_shot_is_whole fx.g_p_is_whole fx.u_p_is_whole.kp (bi_p_is_whole fx) tk ?_
      refine da_cons ?_ ?_
      · refine d_ix ?_ ?_ (fun _ _ => rfl)
        · exact d_var 1 rfl (Or.inl v_p_is_shot_value)
        · exact d_int
      · refine da_cons ?_ ?_
        · exact d_int
        · refine da_cons ?_ ?_
          · refine d_op op_sub o2_sub ?_ ?_
            · refine d_B call_len b_len g_p_is_shot_len fx.n_len PySem.boot_len ?_
              refine da_cons ?_ ?_
              · refine d_ix ?_ ?_ (fun _ _ => rfl)
                · exact d_var 0 rfl (Or.inl v_p_is_shot_cameras)
                · refine d_ix ?_ ?_ (fun _ _ => rfl)
                  · exact d_var 1 rfl (Or.inl v_p_is_shot_value)
                  · exact d_int
              · exact da_nil
            · exact d_int
          · exact da_nil
theorem ok_p_is_shot {P : Program} {w : World} {K : PySem.W.Frag} {mg : Str → Option Value} {base : Heap} (fx : Fx K mg) : FnG P w K mg base (L2.CX P w) 3 (f_p_is_shot K) fx.fd_p_is_shot ["cameras", "value"] (spF K mg 2 F_p_is_shot) := okA_p_is_shot fx
theorem bi_p_is_tie {K : PySem.W.Frag} {mg : Str → Option Value} (fx : Fx K mg) : Binds K fx.fd_p_is_tie ["cameras", "value"] [] := fx.u_p_is_tie.binds fun _ _ _ _ _ _ us hl => match us, hl with | [_, _], _ => rfl
theorem okA_p_is_tie {P : Program} {w : World} {K : PySem.W.Frag} {mg : Str → Option Value} {base : Heap} (fx : Fx K mg) : FnG P w K mg base (L2.CX P w) 4 (f_p_is_tie K) fx.fd_p_is_tie ["cameras", "value"] (spF K mg (["cameras", "value"] : List Str).length (fnF (["cameras", "value", "one", "shot"] : List Str).length b_p_is_tie_den)) := by
  refine fnG_ok (k := 3) (body := b_p_is_tie_den) fx.u_p_is_tie sc_p_is_tie fun cdv A outer s H E hG hr tk hp => ?_
  refine ds_cons ?_ ?_
  · refine ds_if ?_ ?_ ?_
    · refine Dw.t ?_
      refine dw_or ?_ ?_
      · refine dt_not ?_
        refine dt_val ?_
        refine d_isi g_p_is_tie_isinstance fx.n_isinstance ?_ g_p_is_tie_tuple fx.n_tuple PyProof.Rows.boot_tuple
        exact d_var 1 rfl (Or.inl v_p_is_tie_value)
      · refine dw_or ?_ ?_
        · refine dt_cmp (op_neP hr.units) o2_ne ?_ ?_ (nomark _)
          · refine d_B call_len b_len g_p_is_tie_len fx.n_len PySem.boot_len ?_
            refine da_cons ?_ ?_
            · exact d_var 1 rfl (Or.inl v_p_is_tie_value)
            · exact da_nil
          · exact d_int
        · refine dw_or1 ?_
          refine dt_not ?_
          refine dt_val ?_
          refine d_B (cr_all rfl) b_all g_p_is_tie_all fx.n_all PyProof.Rows.boot_all ?_
          refine da_cons ?_ ?_
          · refine d_lc (own := [("shot", 3)]) rfl sc_p_is_tie.nd ?_ (blkOk_by (by rfl)) (fun _ _ _ _ _ => ?_) (fun _ _ _ _ _ => ?_) (fun _ _ _ _ _ => ?_) (tgIn_name (by decide))
            · refine di_seq ?_
              refine d_slice ?_ ?_ ?_
              · exact d_var 1 rfl (Or.inl v_p_is_tie_value)
              · exact dp_none
              · refine dp_some ?_
                exact d_int
            · exact dg_name sc_p_is_tie.nd rfl (Or.inl (blk_loc (by decide +kernel))) (Or.inr rfl)
            · exact dts_nil
            · refine d_callG (ok_p_is_shot fx) hG (hr.mono (by decide)) (blk_gl (by decide +kernel)) fx.g_p_is_shot fx.u_p_is_shot.kp (bi_p_is_shot fx) takes0 ?_
              refine da_cons ?_ ?_
              · exact d_var 0 rfl (blk_free (by decide +kernel))
              · refine da_cons ?_ ?_
                · exact d_var 3 rfl (blk_vis (by decide +kernel))
                · exact da_nil
          · exact da_nil
    · refine ds_one ?_
      refine ds_ret ?_
      exact d_bl
    · exact ds_nil
  · refine ds_one ?_
    refine ds_ret ?_
    refine d_and ?_ ?_
    · refine d_B (cr_all rfl) b_all g_p_is_tie_all fx.n_all PyProof.Rows.boot_all ?_
      refine da_cons ?_ ?_
      · refine d_lc (own := [("one", 2)]) rfl sc_p_is_tie.nd ?_ (blkOk_by (by rfl)) (fun _ _ _ _ _ => ?_) (fun _ _ _ _ _ => ?_) (fun _ _ _ _ _ => ?_) (tgIn_name (by decide))
        · refine di_seq ?_
          refine d_slice ?_ ?_ ?_
          · exact d_var 1 rfl (Or.inl v_p_is_tie_value)
          · refine dp_some ?_
            exact d_int
          · exact dp_none
        · exact dg_name sc_p_is_tie.nd rfl (Or.inl (blk_loc (by decide +kernel))) (Or.inr rfl)
        · exact dts_nil
        · refine d_callG (ok_p_is_whole fx) hG (hr.mono (by decide)) (blk_gl (by decide +kernel)) fx.g_p_is_whole fx.u_p_is_whole.kp (bi_p_is_whole fx) takes0 ?_
          refine da_cons ?_ ?_
          · exact d_var 2 rfl (blk_vis (by decide +kernel))
          · refine da_cons ?_ ?_
            · refine d_un un_neg o1_neg ?_
              exact d_glob (d := .int 10000000000) (v := .int 10000000000) (blk_gl (by decide +kernel)) fx.c_WIDE ⟨_, rfl⟩ rfl
            · refine da_cons ?_ ?_
              · exact d_glob (d := .int 10000000000) (v := .int 10000000000) (blk_gl (by decide +kernel)) fx.c_WIDE ⟨_, rfl⟩ rfl
              · exact da_nil
      · exact da_nil
    · refine d_one ?_
      refine d_cmp op_le o2_le ?_ ?_ (nomark _)
      · refine d_ix ?_ ?_ (fun _ _ => rfl)
        · exact d_var 1 rfl (Or.inl v_p_is_tie_value)
        · exact d_int
      · refine d_ix ?_ ?_ (fun _ _ => rfl)
        · exact d_var 1 rfl (Or.inl v_p_is_tie_value)
        · exact d_int
theorem ok_p_is_tie {P : Program} {w : World} {K : PySem.W.Frag} {mg : Str → Option Value} {base : Heap} (fx : Fx K mg) : FnG P w K mg base (L2.CX P w) 4 (f_p_is_tie K) fx.fd_p_is_tie ["cameras", "value"] (spF K mg 2 F_p_is_tie) := okA_p_is_tie fx
theorem bi_p_need_rest {K : PySem.W.Frag} {mg : Str → Option Value} (fx : Fx K mg) : Binds K fx.fd_p_need_rest ["cameras", "bounds", "ties", "gap"] [] := fx.u_p_need_rest.binds fun _ _ _ _ _ _ us hl => match us, hl with | [_, _, _, _], _ => rfl
theorem okA_p_need_rest {P : Program} {w : World} {K : PySem.W.Frag} {mg : Str → Option Value} {base : Heap} (fx : Fx K mg) : FnG P w K mg base (L2.CX P w) 5 (f_p_need_rest K) fx.fd_p_need_rest ["cameras", "bounds", "ties", "gap"] (spF K mg (["cameras", "bounds", "ties", "gap"] : List Str).length (fnF (["cameras", "bounds", "ties", "gap", "number", "pair", "tie"] : List Str).length b_p_need_rest_den)) := by
  refine fnG_ok (k := 4) (body := b_p_need_rest_den) fx.u_p_need_rest sc_p_need_rest fun cdv A outer s H E hG hr tk hp => ?_
  refine ds_cons ?_ ?_
  · refine ds_if ?_ ?_ ?_
    · refine Dw.t ?_
      refine dw_or ?_ ?_
      · refine dt_not ?_
        refine dt_val ?_
        refine d_isi g_p_need_rest_isinstance fx.n_isinstance ?_ g_p_need_rest_tuple fx.n_tuple PyProof.Rows.boot_tuple
        exact d_var 1 rfl (Or.inl v_p_need_rest_bounds)
      · refine dw_or1 ?_
        refine dt_cmp (op_neP hr.units) o2_ne ?_ ?_ (nomark _)
        · refine d_B call_len b_len g_p_need_rest_len fx.n_len PySem.boot_len ?_
          refine da_cons ?_ ?_
          · exact d_var 1 rfl (Or.inl v_p_need_rest_bounds)
          · exact da_nil
        · refine d_B call_len b_len g_p_need_rest_len fx.n_len PySem.boot_len ?_
          refine da_cons ?_ ?_
          · exact d_var 0 rfl (Or.inl v_p_need_rest_cameras)
          · exact da_nil
    · refine ds_one ?_
      exact ds_bad
    · exact ds_nil
  · refine ds_cons ?_ ?_
    · refine ds_for hp rfl ?_ ?_ ?_
      · refine di_enum g_p_need_rest_enumerate fx.n_enumerate ?_
        refine da_cons ?_ ?_
        · exact d_var 1 rfl (Or.inl v_p_need_rest_bounds)
        · exact da_nil
      · refine dg_tup rfl ?_
        refine dgs_cons ?_ ?_
        · exact dg_name sc_p_need_rest.nd rfl (Or.inl v_p_need_rest_number) (Or.inl rfl)
        · refine dgs_cons ?_ ?_
          · exact dg_name sc_p_need_rest.nd rfl (Or.inl v_p_need_rest_pair) (Or.inl rfl)
          · exact dgs_nil
      · refine ds_one ?_
        refine ds_if ?_ ?_ ?_
        · refine dt_not ?_
          refine dt_val ?_
          refine d_callG (ok_p_are_bounds fx) hG (hr.mono (by decide)) g_p_need_rest_are_bounds fx.g_p_are_bounds fx.u_p_are_bounds.kp (bi_p_are_bounds fx) tk ?_
          refine da_cons ?_ ?_
          · exact d_var 5 rfl (Or.inl v_p_need_rest_pair)
          · exact da_nil
        · refine ds_one ?_
          exact ds_bad
        · exact ds_nil
    · refine ds_cons ?_ ?_
      · refine ds_if ?_ ?_ ?_
        · refine Dw.t ?_
          refine dw_or ?_ ?_
          · refine dt_not ?_
            refine dt_val ?_
            refine d_isi g_p_need_rest_isinstance fx.n_isinstance ?_ g_p_need_rest_tuple fx.n_tuple PyProof.Rows.boot_tuple
            exact d_var 2 rfl (Or.inl v_p_need_rest_ties)
          · refine dw_or1 ?_
            refine dt_cmp op_gt o2_gt ?_ ?_ (nomark _)
            · refine d_B call_len b_len g_p_need_rest_len fx.n_len PySem.boot_len ?_
              refine da_cons ?_ ?_
              · exact d_var 2 rfl (Or.inl v_p_need_rest_ties)
              · exact da_nil
            · exact d_glob (d := .int 12) (v := .int 12) g_p_need_rest_MOST_TIES fx.c_MOST_TIES ⟨_, rfl⟩ rfl
        · refine ds_one ?_
          exact ds_bad
        · exact ds_nil
      · refine ds_cons ?_ ?_
        · refine ds_for hp rfl ?_ ?_ ?_
          · refine di_enum g_p_need_rest_enumerate fx.n_enumerate ?_
            refine da_cons ?_ ?_
            · exact d_var 2 rfl (Or.inl v_p_need_rest_ties)
            · exact da_nil
          · refine dg_tup rfl ?_
            refine dgs_cons ?_ ?_
            · exact dg_name sc_p_need_rest.nd rfl (Or.inl v_p_need_rest_number) (Or.inl rfl)
            · refine dgs_cons ?_ ?_
              · exact dg_name sc_p_need_rest.nd rfl (Or.inl v_p_need_rest_tie) (Or.inl rfl)
              · exact dgs_nil
          · refine ds_one ?_
            refine ds_if ?_ ?_ ?_
            · refine dt_not ?_
              refine dt_val ?_
              refine d_callG (ok_p_is_tie fx) hG (hr.mono (by decide)) g_p_need_rest_is_tie fx.g_p_is_tie fx.u_p_is_tie.kp (bi_p_is_tie fx) tk ?_
              refine da_cons ?_ ?_
              · exact d_var 0 rfl (Or.inl v_p_need_rest_cameras)
              · refine da_cons ?_ ?_
                · exact d_var 6 rfl (Or.inl v_p_need_rest_tie)
                · exact da_nil
            · refine ds_one ?_
              exact ds_bad
            · exact ds_nil
        · refine ds_one ?_
          refine ds_if ?_ ?_ ?_
          · refine dt_not ?_
            refine dt_val ?_
            refine d_callG (ok_p_is_whole fx) hG (hr.mono (by decide)) g_p_need_rest_is_whole fx.g_p_is_whole fx.u_p_is_whole.kp (bi_p_is_whole fx) tk ?_
            refine da_cons ?_ ?_
            · exact d_var 3 rfl (Or.inl v_p_need_rest_gap)
            · refine da_cons ?_ ?_
              · exact d_int
              · refine da_cons ?_ ?_
                · exact d_glob (d := .int 10000000000) (v := .int 10000000000) g_p_need_rest_WIDE fx.c_WIDE ⟨_, rfl⟩ rfl
                · exact da_nil
          · refine ds_one ?_
            exact ds_bad
          · exact ds_nil
theorem ok_p_need_rest {P : Program} {w : World} {K : PySem.W.Frag} {mg : Str → Option Value} {base : Heap} (fx : Fx K mg) : FnG P w K mg base (L2.CX P w) 5 (f_p_need_rest K) fx.fd_p_need_rest ["cameras", "bounds", "ties", "gap"] (spF K mg 4 F_p_need_rest) := okA_p_need_rest fx
theorem okA_m_Setting_init {P : Program} {w : World} {K : PySem.W.Frag} {mg : Str → Option Value} {base : Heap} (fx : Fx K mg) : FnG P w K mg base (L2.CX P w) 6 (f_m_Setting_init K) fx.fd_m_Setting_init ["self", "cameras", "bounds", "ties", "gap"] (spI K mg "Setting" (["cameras", "bounds", "ties", "gap"] : List Str).length (fnI "Setting" 4 (["cameras", "bounds", "ties", "gap"] : List Str).length b_m_Setting_init_den)) := by
  refine init_ok (k := 5) (bd := b_m_Setting_init_den) fx.u_m_Setting_init sc_m_Setting_init fun cdv A outer s H E hG hr tk hp => ?_
  refine ds_cons ?_ ?_
  · refine ds_expr ?_ rfl
    refine d_callG (ok_p_need_cameras fx) hG (hr.mono (by decide)) g_m_Setting_init_need_cameras fx.g_p_need_cameras fx.u_p_need_cameras.kp (bi_p_need_cameras fx) tk ?_
    refine da_cons ?_ ?_
    · exact d_var 1 rfl (Or.inl v_m_Setting_init_cameras)
    · exact da_nil
  · refine ds_cons ?_ ?_
    · refine ds_expr ?_ rfl
      refine d_callG (ok_p_need_rest fx) hG (hr.mono (by decide)) g_m_Setting_init_need_rest fx.g_p_need_rest fx.u_p_need_rest.kp (bi_p_need_rest fx) tk ?_
      refine da_cons ?_ ?_
      · exact d_var 1 rfl (Or.inl v_m_Setting_init_cameras)
      · refine da_cons ?_ ?_
        · exact d_var 2 rfl (Or.inl v_m_Setting_init_bounds)
        · refine da_cons ?_ ?_
          · exact d_var 3 rfl (Or.inl v_m_Setting_init_ties)
          · refine da_cons ?_ ?_
            · exact d_var 4 rfl (Or.inl v_m_Setting_init_gap)
            · exact da_nil
    · refine ds_cons ?_ ?_
      · refine ds_setA rfl (Or.inl v_m_Setting_init_self) fx.g_Setting fx.sc_Setting fx.sl_Setting_cameras ?_
        exact d_var 1 rfl (Or.inl v_m_Setting_init_cameras)
      · refine ds_cons ?_ ?_
        · refine ds_setA rfl (Or.inl v_m_Setting_init_self) fx.g_Setting fx.sc_Setting fx.sl_Setting_bounds ?_
          exact d_var 2 rfl (Or.inl v_m_Setting_init_bounds)
        · refine ds_cons ?_ ?_
          · refine ds_setA rfl (Or.inl v_m_Setting_init_self) fx.g_Setting fx.sc_Setting fx.sl_Setting_ties ?_
            exact d_var 3 rfl (Or.inl v_m_Setting_init_ties)
          · refine ds_one ?_
            refine ds_setA rfl (Or.inl v_m_Setting_init_self) fx.g_Setting fx.sc_Setting fx.sl_Setting_gap ?_
            exact d_var 4 rfl (Or.inl v_m_Setting_init_gap)
theorem ok_m_Setting_init {P : Program} {w : World} {K : PySem.W.Frag} {mg : Str → Option Value} {base : Heap} (fx : Fx K mg) : FnG P w K mg base (L2.CX P w) 6 (f_m_Setting_init K) fx.fd_m_Setting_init ["self", "cameras", "bounds", "ties", "gap"] (spI K mg "Setting" 4 F_m_Setting_init) := okA_m_Setting_init fx
theorem bi_l_made {K : PySem.W.Frag} {mg : Str → Option Value} (fx : Fx K mg) : Binds K fx.fd_l_made ["_law_plain"] [] := fx.u_l_made.binds fun _ _ _ _ _ _ us hl => match us, hl with | [_], _ => rfl
theorem okA_l_made {P : Program} {w : World} {K : PySem.W.Frag} {mg : Str → Option Value} {base : Heap} (fx : Fx K mg) : FnG P w K mg base (L2.CX P w) 8 (f_l_made K) fx.fd_l_made ["_law_plain"] (spF K mg (["_law_plain"] : List Str).length (fnF (["_law_plain"] : List Str).length b_l_made_den)) := by
  refine fnG_ok (k := 7) (body := b_l_made_den) fx.u_l_made sc_l_made fun cdv A outer s H E hG hr tk hp => ?_
  refine ds_one ?_
  refine ds_ret ?_
  refine d_makeE (ks := ["gap"]) fx.mk_Setting (ok_m_Setting_init fx) hG (hr.mono (by decide)) g_l_made_Setting fx.g_Setting (kb_Setting_3_gap fx) gd_full tk ?_ ?_
  · refine da_cons ?_ ?_
    · refine d_ix ?_ ?_ (fun _ _ => rfl)
      · exact d_var 0 rfl (Or.inl v_l_made_law_plain)
      · exact d_int
    · refine da_cons ?_ ?_
      · refine d_ix ?_ ?_ (fun _ _ => rfl)
        · exact d_var 0 rfl (Or.inl v_l_made_law_plain)
        · exact d_int
      · refine da_cons ?_ ?_
        · refine d_ix ?_ ?_ (fun _ _ => rfl)
          · exact d_var 0 rfl (Or.inl v_l_made_law_plain)
          · exact d_int
        · exact da_nil
  · refine dk_cons ?_ ?_
    · refine d_ix ?_ ?_ (fun _ _ => rfl)
      · exact d_var 0 rfl (Or.inl v_l_made_law_plain)
      · exact d_int
    · exact dk_nil
theorem ok_l_made {P : Program} {w : World} {K : PySem.W.Frag} {mg : Str → Option Value} {base : Heap} (fx : Fx K mg) : FnG P w K mg base (L2.CX P w) 8 (f_l_made K) fx.fd_l_made ["_law_plain"] (spF K mg 1 F_l_made) := okA_l_made fx
theorem bi_l_like {K : PySem.W.Frag} {mg : Str → Option Value} (fx : Fx K mg) : Binds K fx.fd_l_like ["_law_told", "_law_due"] [] := fx.u_l_like.binds fun _ _ _ _ _ _ us hl => match us, hl with | [_, _], _ => rfl
theorem okA_l_like {P : Program} {w : World} {K : PySem.W.Frag} {mg : Str → Option Value} {base : Heap} (fx : Fx K mg) : FnG P w K mg base (L2.CX P w) 1 (f_l_like K) fx.fd_l_like ["_law_told", "_law_due"] (spF K mg (["_law_told", "_law_due"] : List Str).length (fnF (["_law_told", "_law_due"] : List Str).length b_l_like_den)) := by
  refine fnG_ok (k := 0) (body := b_l_like_den) fx.u_l_like sc_l_like fun cdv A outer s H E hG hr tk hp => ?_
  refine ds_one ?_
  refine ds_ret ?_
  refine d_cmp (op_eqP hr.units) o2_eq ?_ ?_ (nomark _)
  · refine d_B (call_reprD hG hr) b_repr g_l_like_repr fx.n_repr PyProof.Rows.boot_repr ?_
    refine da_cons ?_ ?_
    · exact d_var 0 rfl (Or.inl v_l_like_law_told)
    · exact da_nil
  · refine d_B (call_reprD hG hr) b_repr g_l_like_repr fx.n_repr PyProof.Rows.boot_repr ?_
    refine da_cons ?_ ?_
    · exact d_var 1 rfl (Or.inl v_l_like_law_due)
    · exact da_nil
theorem ok_l_like {P : Program} {w : World} {K : PySem.W.Frag} {mg : Str → Option Value} {base : Heap} (fx : Fx K mg) : FnG P w K mg base (L2.CX P w) 1 (f_l_like K) fx.fd_l_like ["_law_told", "_law_due"] (spF K mg 2 F_l_like) := okA_l_like fx
theorem bi_m_Setting_shots {K : PySem.W.Frag} {mg : Str → Option Value} (fx : Fx K mg) : Binds K fx.fd_m_Setting_shots ["self"] [] := fx.u_m_Setting_shots.binds fun _ _ _ _ _ _ us hl => match us, hl with | [_], _ => rfl
theorem okA_m_Setting_shots {P : Program} {w : World} {K : PySem.W.Frag} {mg : Str → Option Value} {base : Heap} (fx : Fx K mg) : FnG P w K mg base (L2.CX P w) 1 (f_m_Setting_shots K) fx.fd_m_Setting_shots ["self"] (spF K mg (["self"] : List Str).length (fnF (["self", "at", "number", "stamps"] : List Str).length b_m_Setting_shots_den)) := by
  refine fnG_ok (k := 0) (body := b_m_Setting_shots_den) fx.u_m_Setting_shots sc_m_Setting_shots fun cdv A outer s H E hG hr tk hp => ?_
  refine ds_one ?_
  refine ds_ret ?_
  refine d_Ty call_tuple_of b_tuple g_m_Setting_shots_tuple fx.n_tuple PyProof.Rows.boot_tuple ?_
  refine da_cons ?_ ?_
  · refine d_lc2 (own := [("number", 2), ("stamps", 3), ("at", 1)]) (vs1 := [1]) rfl sc_m_Setting_shots.nd ?_ (blkOk_by (by rfl)) (by decide) (fun _ _ _ _ _ => ?_) (fun _ _ _ _ _ => ?_) (fun _ _ _ _ _ => ?_) (fun _ _ _ _ _ => ?_) (fun _ _ _ _ _ => ?_) (fun _ _ _ _ _ => ?_) (tgIn_tup (tgIn_cons (tgIn_name (by decide)) (tgIn_cons (tgIn_name (by decide)) tgIn_nil))) (tgIn_name (by decide))
    · refine di_enum g_m_Setting_shots_enumerate fx.n_enumerate ?_
      refine da_cons ?_ ?_
      · refine d_attr (AtF.one fx.g_Setting fx.sc_Setting fx.sl_Setting_cameras) ?_
        exact d_var 0 rfl (Or.inl v_m_Setting_shots_self)
      · exact da_nil
    · refine dg_tup rfl ?_
      refine dgs_cons ?_ ?_
      · exact dg_name sc_m_Setting_shots.nd rfl (Or.inl (blk_loc (by decide +kernel))) (Or.inr rfl)
      · refine dgs_cons ?_ ?_
        · exact dg_name sc_m_Setting_shots.nd rfl (Or.inl (blk_loc (by decide +kernel))) (Or.inr rfl)
        · exact dgs_nil
    · exact dts_nil
    · refine di_range1 (blk_gl (by decide +kernel)) fx.n_range ?_
      refine da_cons ?_ ?_
      · refine d_B call_len b_len (blk_gl (by decide +kernel)) fx.n_len PySem.boot_len ?_
        refine da_cons ?_ ?_
        · exact d_var 3 rfl (blk_vis (by decide +kernel))
        · exact da_nil
      · exact da_nil
    · exact dg_name sc_m_Setting_shots.nd rfl (Or.inl (blk_loc (by decide +kernel))) (Or.inr rfl)
    · exact dts_nil
    · refine d_tup ?_
      refine da_cons ?_ ?_
      · exact d_var 2 rfl (blk_vis (by decide +kernel))
      · refine da_cons ?_ ?_
        · exact d_var 1 rfl (blk_vis (by decide +kernel))
        · exact da_nil
  · exact da_nil
theorem ok_m_Setting_shots {P : Program} {w : World} {K : PySem.W.Frag} {mg : Str → Option Value} {base : Heap} (fx : Fx K mg) : FnG P w K mg base (L2.CX P w) 1 (f_m_Setting_shots K) fx.fd_m_Setting_shots ["self"] (spF K mg 1 F_m_Setting_shots) := okA_m_Setting_shots fx
theorem bi_m_Setting_len {K : PySem.W.Frag} {mg : Str → Option Value} (fx : Fx K mg) : Binds K fx.fd_m_Setting_len ["self"] [] := fx.u_m_Setting_len.binds fun _ _ _ _ _ _ us hl => match us, hl with | [_], _ => rfl
theorem okA_m_Setting_len {P : Program} {w : World} {K : PySem.W.Frag} {mg : Str → Option Value} {base : Heap} (fx : Fx K mg) : FnG P w K mg base (L2.CX P w) 2 (f_m_Setting_len K) fx.fd_m_Setting_len ["self"] (spF K mg (["self"] : List Str).length (fnF (["self"] : List Str).length b_m_Setting_len_den)) := by
  refine fnG_ok (k := 1) (body := b_m_Setting_len_den) fx.u_m_Setting_len sc_m_Setting_len fun cdv A outer s H E hG hr tk hp => ?_
  refine ds_one ?_
  refine ds_ret ?_
  refine d_B call_len b_len g_m_Setting_len_len fx.n_len PySem.boot_len ?_
  refine da_cons ?_ ?_
  · refine d_meth0 fx.g_Setting fx.sc_Setting fx.me_Setting_shots (ok_m_Setting_shots fx) hG (hr.mono (by decide)) (bi_m_Setting_shots fx) tk ?_
    exact d_var 0 rfl (Or.inl v_m_Setting_len_self)
  · exact da_nil
theorem ok_m_Setting_len {P : Program} {w : World} {K : PySem.W.Frag} {mg : Str → Option Value} {base : Heap} (fx : Fx K mg) : FnG P w K mg base (L2.CX P w) 2 (f_m_Setting_len K) fx.fd_m_Setting_len ["self"] (spF K mg 1 F_m_Setting_len) := okA_m_Setting_len fx
theorem bi_m_Setting_getitem {K : PySem.W.Frag} {mg : Str → Option Value} (fx : Fx K mg) : Binds K fx.fd_m_Setting_getitem ["self", "shot"] [] := fx.u_m_Setting_getitem.binds fun _ _ _ _ _ _ us hl => match us, hl with | [_, _], _ => rfl
theorem okA_m_Setting_getitem {P : Program} {w : World} {K : PySem.W.Frag} {mg : Str → Option Value} {base : Heap} (fx : Fx K mg) : FnG P w K mg base (L2.CX P w) 4 (f_m_Setting_getitem K) fx.fd_m_Setting_getitem ["self", "shot"] (spF K mg (["self", "shot"] : List Str).length (fnF (["self", "shot"] : List Str).length b_m_Setting_getitem_den)) := by
  refine fnG_ok (k := 3) (body := b_m_Setting_getitem_den) fx.u_m_Setting_getitem sc_m_Setting_getitem fun cdv A outer s H E hG hr tk hp => ?_
  refine ds_cons ?_ ?_
  · refine ds_if ?_ ?_ ?_
    · refine dt_not ?_
      refine dt_val ?_
      refine d_callG (ok_p_is_shot fx) hG (hr.mono (by decide)) g_m_Setting_getitem_is_shot fx.g_p_is_shot fx.u_p_is_shot.kp (bi_p_is_shot fx) tk ?_
      refine da_cons ?_ ?_
      · refine d_attr (AtF.one fx.g_Setting fx.sc_Setting fx.sl_Setting_cameras) ?_
        exact d_var 0 rfl (Or.inl v_m_Setting_getitem_self)
      · refine da_cons ?_ ?_
        · exact d_var 1 rfl (Or.inl v_m_Setting_getitem_shot)
        · exact da_nil
    · refine ds_one ?_
      exact ds_bad
    · exact ds_nil
  · refine ds_one ?_
    refine ds_ret ?_
    refine d_ix ?_ ?_ (fun _ _ => rfl)
    · refine d_ix ?_ ?_ (fun _ _ => rfl)
      · refine d_attr (AtF.one fx.g_Setting fx.sc_Setting fx.sl_Setting_cameras) ?_
        exact d_var 0 rfl (Or.inl v_m_Setting_getitem_self)
      · refine d_ix ?_ ?_ (fun _ _ => rfl)
        · exact d_var 1 rfl (Or.inl v_m_Setting_getitem_shot)
        · exact d_int
    · refine d_ix ?_ ?_ (fun _ _ => rfl)
      · exact d_var 1 rfl (Or.inl v_m_Setting_getitem_shot)
      · exact d_int
theorem ok_m_Setting_getitem {P : Program} {w : World} {K : PySem.W.Frag} {mg : Str → Option Value} {base : Heap} (fx : Fx K mg) : FnG P w K mg base (L2.CX P w) 4 (f_m_Setting_getitem K) fx.fd_m_Setting_getitem ["self", "shot"] (spF K mg 2 F_m_Setting_getitem) := okA_m_Setting_getitem fx
theorem bi_m_Setting_eq {K : PySem.W.Frag} {mg : Str → Option Value} (fx : Fx K mg) : Binds K fx.fd_m_Setting_eq ["self", "other"] [] := fx.u_m_Setting_eq.binds fun _ _ _ _ _ _ us hl => match us, hl with | [_, _], _ => rfl
theorem okA_m_Setting_eq {P : Program} {w : World} {K : PySem.W.Frag} {mg : Str → Option Value} {base : Heap} (fx : Fx K mg) : FnG P w K mg base (L2.CX P w) 1 (f_m_Setting_eq K) fx.fd_m_Setting_eq ["self", "other"] (spF K mg (["self", "other"] : List Str).length (fnF (["self", "other"] : List Str).length b_m_Setting_eq_den)) := by
  refine fnG_ok (k := 0) (body := b_m_Setting_eq_den) fx.u_m_Setting_eq sc_m_Setting_eq fun cdv A outer s H E hG hr tk hp => ?_
  refine ds_cons ?_ ?_
  · refine ds_if ?_ ?_ ?_
    · refine Dw.t ?_
      refine dw_or ?_ ?_
      · refine dt_not ?_
        refine dt_val ?_
        refine d_isiC fx.is_Setting g_m_Setting_eq_isinstance fx.n_isinstance ?_ g_m_Setting_eq_Setting fx.g_Setting
        exact d_var 1 rfl (Or.inl v_m_Setting_eq_other)
      · refine dw_or ?_ ?_
        · refine dt_cmp (op_neP hr.units) o2_ne ?_ ?_ (nomark _)
          · refine d_attr (AtF.one fx.g_Setting fx.sc_Setting fx.sl_Setting_cameras) ?_
            exact d_var 0 rfl (Or.inl v_m_Setting_eq_self)
          · refine d_attr (AtF.one fx.g_Setting fx.sc_Setting fx.sl_Setting_cameras) ?_
            exact d_var 1 rfl (Or.inl v_m_Setting_eq_other)
        · refine dw_or1 ?_
          refine dt_cmp (op_neP hr.units) o2_ne ?_ ?_ (nomark _)
          · refine d_attr (AtF.one fx.g_Setting fx.sc_Setting fx.sl_Setting_bounds) ?_
            exact d_var 0 rfl (Or.inl v_m_Setting_eq_self)
          · refine d_attr (AtF.one fx.g_Setting fx.sc_Setting fx.sl_Setting_bounds) ?_
            exact d_var 1 rfl (Or.inl v_m_Setting_eq_other)
    · refine ds_one ?_
      refine ds_ret ?_
      exact d_bl
    · exact ds_nil
  · refine ds_one ?_
    refine ds_ret ?_
    refine d_and ?_ ?_
    · refine d_cmp (op_eqP hr.units) o2_eq ?_ ?_ (nomark _)
      · refine d_attr (AtF.one fx.g_Setting fx.sc_Setting fx.sl_Setting_ties) ?_
        exact d_var 0 rfl (Or.inl v_m_Setting_eq_self)
      · refine d_attr (AtF.one fx.g_Setting fx.sc_Setting fx.sl_Setting_ties) ?_
        exact d_var 1 rfl (Or.inl v_m_Setting_eq_other)
    · refine d_one ?_
      refine d_cmp (op_eqP hr.units) o2_eq ?_ ?_ (nomark _)
      · refine d_attr (AtF.one fx.g_Setting fx.sc_Setting fx.sl_Setting_gap) ?_
        exact d_var 0 rfl (Or.inl v_m_Setting_eq_self)
      · refine d_attr (AtF.one fx.g_Setting fx.sc_Setting fx.sl_Setting_gap) ?_
        exact d_var 1 rfl (Or.inl v_m_Setting_eq_other)
theorem ok_m_Setting_eq {P : Program} {w : World} {K : PySem.W.Frag} {mg : Str → Option Value} {base : Heap} (fx : Fx K mg) : FnG P w K mg base (L2.CX P w) 1 (f_m_Setting_eq K) fx.fd_m_Setting_eq ["self", "other"] (spF K mg 2 F_m_Setting_eq) := okA_m_Setting_eq fx
theorem bi_l_unlike {K : PySem.W.Frag} {mg : Str → Option Value} (fx : Fx K mg) : Binds K fx.fd_l_unlike ["_law_plain"] [] := fx.u_l_unlike.binds fun _ _ _ _ _ _ us hl => match us, hl with | [_], _ => rfl
theorem okA_l_unlike {P : Program} {w : World} {K : PySem.W.Frag} {mg : Str → Option Value} {base : Heap} (fx : Fx K mg) : FnG P w K mg base (L2.CX P w) 8 (f_l_unlike K) fx.fd_l_unlike ["_law_plain"] (spF K mg (["_law_plain"] : List Str).length (fnF (["_law_plain", "_law_wide_here", "_law_found", "_law_cameras_here", "_law_bounds", "_law_ties", "_law_breadth", "_law_rows"] : List Str).length b_l_unlike_den)) := by
  refine fnG_ok (k := 7) (body := b_l_unlike_den) fx.u_l_unlike sc_l_unlike fun cdv A outer s H E hG hr tk hp => ?_
  refine ds_cons ?_ ?_
  · refine ds_asg ?_ ?_ rfl rfl rfl
    · exact d_var 0 rfl (Or.inl v_l_unlike_law_plain)
    · refine dg_tup rfl ?_
      refine dgs_cons ?_ ?_
      · exact dg_name sc_l_unlike.nd rfl (Or.inl v_l_unlike_law_cameras_here) (Or.inl rfl)
      · refine dgs_cons ?_ ?_
        · exact dg_name sc_l_unlike.nd rfl (Or.inl v_l_unlike_law_bounds) (Or.inl rfl)
        · refine dgs_cons ?_ ?_
          · exact dg_name sc_l_unlike.nd rfl (Or.inl v_l_unlike_law_ties) (Or.inl rfl)
          · refine dgs_cons ?_ ?_
            · exact dg_name sc_l_unlike.nd rfl (Or.inl v_l_unlike_law_breadth) (Or.inl rfl)
            · exact dgs_nil
  · refine ds_cons ?_ ?_
    · refine ds_set sc_l_unlike.nd rfl (Or.inl v_l_unlike_law_wide_here) ?_ rfl (Or.inl rfl)
      refine d_ite ?_ ?_ ?_
      · refine dt_cmp (op_neP hr.units) o2_ne ?_ ?_ (nomark _)
        · refine d_ix ?_ ?_ (fun _ _ => rfl)
          · exact d_var 4 rfl (Or.inl v_l_unlike_law_bounds)
          · exact d_int
        · refine d_tup ?_
          refine da_cons ?_ ?_
          · refine d_op op_sub o2_sub ?_ ?_
            · exact d_int
            · refine d_op op_pow o2_pow ?_ ?_
              · exact d_int
              · exact d_int
          · refine da_cons ?_ ?_
            · refine d_op op_pow o2_pow ?_ ?_
              · exact d_int
              · exact d_int
            · exact da_nil
      · refine d_tup ?_
        refine da_cons ?_ ?_
        · refine d_op op_sub o2_sub ?_ ?_
          · exact d_int
          · refine d_op op_pow o2_pow ?_ ?_
            · exact d_int
            · exact d_int
        · refine da_cons ?_ ?_
          · refine d_op op_pow o2_pow ?_ ?_
            · exact d_int
            · exact d_int
          · exact da_nil
      · refine d_tup ?_
        refine da_cons ?_ ?_
        · exact d_int
        · refine da_cons ?_ ?_
          · exact d_int
          · exact da_nil
    · refine ds_cons ?_ ?_
      · refine ds_setO sc_l_unlike.nd rfl (Or.inl v_l_unlike_law_found) ?_ rfl (Or.inl rfl)
        refine df_lst ?_
        refine da_cons ?_ ?_
        · refine d_makeE (ks := ["gap"]) fx.mk_Setting (ok_m_Setting_init fx) hG (hr.mono (by decide)) g_l_unlike_Setting fx.g_Setting (kb_Setting_3_gap fx) gd_full tk ?_ ?_
          · refine da_cons ?_ ?_
            · exact d_var 3 rfl (Or.inl v_l_unlike_law_cameras_here)
            · refine da_cons ?_ ?_
              · refine d_op op_addD o2_add ?_ ?_
                · refine d_tup ?_
                  refine da_cons ?_ ?_
                  · exact d_var 1 rfl (Or.inl v_l_unlike_law_wide_here)
                  · exact da_nil
                · refine d_slice ?_ ?_ ?_
                  · exact d_var 4 rfl (Or.inl v_l_unlike_law_bounds)
                  · refine dp_some ?_
                    exact d_int
                  · exact dp_none
              · refine da_cons ?_ ?_
                · exact d_var 5 rfl (Or.inl v_l_unlike_law_ties)
                · exact da_nil
          · refine dk_cons ?_ ?_
            · exact d_var 6 rfl (Or.inl v_l_unlike_law_breadth)
            · exact dk_nil
        · exact da_nil
      · refine ds_cons ?_ ?_
        · refine ds_if ?_ ?_ ?_
          · refine dt_cmp (op_neP hr.units) o2_ne ?_ ?_ (nomark _)
            · refine d_rev ?_
              exact d_var 5 rfl (Or.inl v_l_unlike_law_ties)
            · exact d_var 5 rfl (Or.inl v_l_unlike_law_ties)
          · refine ds_one ?_
            refine ds_app 2 ?_ rfl (Or.inl v_l_unlike_law_found)
            refine d_makeE (ks := ["gap"]) fx.mk_Setting (ok_m_Setting_init fx) hG (hr.mono (by decide)) g_l_unlike_Setting fx.g_Setting (kb_Setting_3_gap fx) gd_full tk ?_ ?_
            · refine da_cons ?_ ?_
              · exact d_var 3 rfl (Or.inl v_l_unlike_law_cameras_here)
              · refine da_cons ?_ ?_
                · exact d_var 4 rfl (Or.inl v_l_unlike_law_bounds)
                · refine da_cons ?_ ?_
                  · refine d_rev ?_
                    exact d_var 5 rfl (Or.inl v_l_unlike_law_ties)
                  · exact da_nil
            · refine dk_cons ?_ ?_
              · exact d_var 6 rfl (Or.inl v_l_unlike_law_breadth)
              · exact dk_nil
          · exact ds_nil
        · refine ds_cons ?_ ?_
          · refine ds_if ?_ ?_ ?_
            · refine dt_cmp (op_neP hr.units) o2_ne ?_ ?_ (nomark _)
              · exact d_var 5 rfl (Or.inl v_l_unlike_law_ties)
              · refine d_tup ?_
                exact da_nil
            · refine ds_one ?_
              refine ds_app 2 ?_ rfl (Or.inl v_l_unlike_law_found)
              refine d_makeE (ks := ["gap"]) fx.mk_Setting (ok_m_Setting_init fx) hG (hr.mono (by decide)) g_l_unlike_Setting fx.g_Setting (kb_Setting_3_gap fx) gd_full tk ?_ ?_
              · refine da_cons ?_ ?_
                · exact d_var 3 rfl (Or.inl v_l_unlike_law_cameras_here)
                · refine da_cons ?_ ?_
                  · exact d_var 4 rfl (Or.inl v_l_unlike_law_bounds)
                  · refine da_cons ?_ ?_
                    · refine d_slice ?_ ?_ ?_
                      · exact d_var 5 rfl (Or.inl v_l_unlike_law_ties)
                      · refine dp_some ?_
                        exact d_int
                      · exact dp_none
                    · exact da_nil
              · refine dk_cons ?_ ?_
                · exact d_var 6 rfl (Or.inl v_l_unlike_law_breadth)
                · exact dk_nil
            · exact ds_nil
          · refine ds_cons ?_ ?_
            · refine ds_if ?_ ?_ ?_
              · refine dt_cmp op_lt o2_lt ?_ ?_ (nomark _)
                · refine d_B call_len b_len g_l_unlike_len fx.n_len PySem.boot_len ?_
                  refine da_cons ?_ ?_
                  · refine d_callG (ok_l_shots fx) hG (hr.mono (by decide)) g_l_unlike_law_shots fx.g_l_shots fx.u_l_shots.kp (bi_l_shots fx) tk ?_
                    refine da_cons ?_ ?_
                    · exact d_var 3 rfl (Or.inl v_l_unlike_law_cameras_here)
                    · exact da_nil
                  · exact da_nil
                · exact d_int
              · refine ds_cons ?_ ?_
                · refine ds_set sc_l_unlike.nd rfl (Or.inl v_l_unlike_law_rows) ?_ rfl (Or.inl rfl)
                  refine d_op op_addD o2_add ?_ ?_
                  · refine d_slice ?_ ?_ ?_
                    · exact d_var 3 rfl (Or.inl v_l_unlike_law_cameras_here)
                    · exact dp_none
                    · refine dp_some ?_
                      refine d_un un_neg o1_neg ?_
                      exact d_int
                  · refine d_tup ?_
                    refine da_cons ?_ ?_
                    · refine d_op op_addD o2_add ?_ ?_
                      · refine d_ix ?_ ?_ (fun _ _ => rfl)
                        · exact d_var 3 rfl (Or.inl v_l_unlike_law_cameras_here)
                        · refine d_un un_neg o1_neg ?_
                          exact d_int
                      · refine d_tup ?_
                        refine da_cons ?_ ?_
                        · refine d_op op_pow o2_pow ?_ ?_
                          · exact d_int
                          · exact d_int
                        · exact da_nil
                    · exact da_nil
                · refine ds_one ?_
                  refine ds_app 2 ?_ rfl (Or.inl v_l_unlike_law_found)
                  refine d_makeE (ks := ["gap"]) fx.mk_Setting (ok_m_Setting_init fx) hG (hr.mono (by decide)) g_l_unlike_Setting fx.g_Setting (kb_Setting_3_gap fx) gd_full tk ?_ ?_
                  · refine da_cons ?_ ?_
                    · exact d_var 7 rfl (Or.inl v_l_unlike_law_rows)
                    · refine da_cons ?_ ?_
                      · exact d_var 4 rfl (Or.inl v_l_unlike_law_bounds)
                      · refine da_cons ?_ ?_
                        · exact d_var 5 rfl (Or.inl v_l_unlike_law_ties)
                        · exact da_nil
                  · refine dk_cons ?_ ?_
                    · exact d_var 6 rfl (Or.inl v_l_unlike_law_breadth)
                    · exact dk_nil
              · exact ds_nil
            · refine ds_one ?_
              refine ds_rel 2 ?_
              refine ds_ret ?_
              exact d_var 2 rfl (Or.inl v_l_unlike_law_found)
theorem ok_l_unlike {P : Program} {w : World} {K : PySem.W.Frag} {mg : Str → Option Value} {base : Heap} (fx : Fx K mg) : FnG P w K mg base (L2.CX P w) 8 (f_l_unlike K) fx.fd_l_unlike ["_law_plain"] (spF K mg 1 F_l_unlike) := okA_l_unlike fx
theorem bi_law_k01 {K : PySem.W.Frag} {mg : Str → Option Value} (fx : Fx K mg) : Binds K fx.fd_law_k01 ["_law_script"] [] := fx.u_law_k01.binds fun _ _ _ _ _ _ us hl => match us, hl with | [_], _ => rfl
theorem okA_law_k01 {P : Program} {w : World} {K : PySem.W.Frag} {mg : Str → Option Value} {base : Heap} (fx : Fx K mg) : FnG P w K mg base (L2.CX P w) 9 (f_law_k01 K) fx.fd_law_k01 ["_law_script"] (spF K mg (["_law_script"] : List Str).length (fnF (["_law_script", "_law_m", "_law_turn", "_law_plain", "_law_shots_here", "_law_other", "_law_told", "_law_setting", "_law_near", "_law_one", "_law_shot"] : List Str).length b_law_k01_den)) := by
  refine fnG_ok (k := 8) (body := b_law_k01_den) fx.u_law_k01 sc_law_k01 fun cdv A outer s H E hG hr tk hp => ?_
  refine ds_cons ?_ ?_
  · refine ds_set sc_law_k01.nd rfl (Or.inl v_law_k01_law_m) ?_ rfl (Or.inl rfl)
    refine d_callG (ok_l_begun fx) hG (hr.mono (by decide)) g_law_k01_law_begun fx.g_l_begun fx.u_l_begun.kp (bi_l_begun fx) tk ?_
    refine da_cons ?_ ?_
    · exact d_var 0 rfl (Or.inl v_law_k01_law_script)
    · exact da_nil
  · refine ds_cons ?_ ?_
    · refine ds_for hp rfl ?_ ?_ ?_
      · refine di_range1 g_law_k01_range fx.n_range ?_
        refine da_cons ?_ ?_
        · exact d_int
        · exact da_nil
      · exact dg_name sc_law_k01.nd rfl (Or.inl v_law_k01_law_turn) (Or.inl rfl)
      · refine ds_cons ?_ ?_
        · refine ds_set sc_law_k01.nd rfl (Or.inr c_law_k01_law_plain) ?_ rfl (Or.inl rfl)
          refine d_callG (ok_l_far fx) hG (hr.mono (by decide)) g_law_k01_law_far fx.g_l_far fx.u_l_far.kp (bi_l_far fx) tk ?_
          refine da_cons ?_ ?_
          · exact d_var 1 rfl (Or.inl v_law_k01_law_m)
          · exact da_nil
        · refine ds_cons ?_ ?_
          · refine ds_asg ?_ ?_ rfl rfl rfl
            · refine d_tup ?_
              refine da_cons ?_ ?_
              · refine d_callG (ok_l_made fx) hG (hr.mono (by decide)) g_law_k01_law_made fx.g_l_made fx.u_l_made.kp (bi_l_made fx) tk ?_
                refine da_cons ?_ ?_
                · exact d_var 3 rfl (Or.inr (Or.inl c_law_k01_law_plain))
                · exact da_nil
              · refine da_cons ?_ ?_
                · refine d_callG (ok_l_made fx) hG (hr.mono (by decide)) g_law_k01_law_made fx.g_l_made fx.u_l_made.kp (bi_l_made fx) tk ?_
                  refine da_cons ?_ ?_
                  · exact d_var 3 rfl (Or.inr (Or.inl c_law_k01_law_plain))
                  · exact da_nil
                · exact da_nil
            · refine dg_tup rfl ?_
              refine dgs_cons ?_ ?_
              · exact dg_name sc_law_k01.nd rfl (Or.inr c_law_k01_law_setting) (Or.inl rfl)
              · refine dgs_cons ?_ ?_
                · exact dg_name sc_law_k01.nd rfl (Or.inl v_law_k01_law_near) (Or.inl rfl)
                · exact dgs_nil
          · refine ds_cons ?_ ?_
            · refine ds_if ?_ ?_ ?_
              · refine dt_not ?_
                refine dt_val ?_
                refine d_isiC fx.is_Setting g_law_k01_isinstance fx.n_isinstance ?_ g_law_k01_Setting fx.g_Setting
                exact d_var 7 rfl (Or.inr (Or.inl c_law_k01_law_setting))
              · refine ds_one ?_
                refine ds_ret ?_
                exact d_bl
              · exact ds_nil
            · refine ds_cons ?_ ?_
              · refine ds_if ?_ ?_ ?_
                · refine dt_not ?_
                  refine dt_val ?_
                  refine d_callG (ok_l_like fx) hG (hr.mono (by decide)) g_law_k01_law_like fx.g_l_like fx.u_l_like.kp (bi_l_like fx) tk ?_
                  refine da_cons ?_ ?_
                  · refine d_tup ?_
                    refine da_cons ?_ ?_
                    · refine d_attr (AtF.one fx.g_Setting fx.sc_Setting fx.sl_Setting_cameras) ?_
                      exact d_var 7 rfl (Or.inr (Or.inl c_law_k01_law_setting))
                    · refine da_cons ?_ ?_
                      · refine d_attr (AtF.one fx.g_Setting fx.sc_Setting fx.sl_Setting_bounds) ?_
                        exact d_var 7 rfl (Or.inr (Or.inl c_law_k01_law_setting))
                      · refine da_cons ?_ ?_
                        · refine d_attr (AtF.one fx.g_Setting fx.sc_Setting fx.sl_Setting_ties) ?_
                          exact d_var 7 rfl (Or.inr (Or.inl c_law_k01_law_setting))
                        · refine da_cons ?_ ?_
                          · refine d_attr (AtF.one fx.g_Setting fx.sc_Setting fx.sl_Setting_gap) ?_
                            exact d_var 7 rfl (Or.inr (Or.inl c_law_k01_law_setting))
                          · exact da_nil
                  · refine da_cons ?_ ?_
                    · exact d_var 3 rfl (Or.inr (Or.inl c_law_k01_law_plain))
                    · exact da_nil
                · refine ds_one ?_
                  refine ds_ret ?_
                  exact d_bl
                · exact ds_nil
              · refine ds_cons ?_ ?_
                · refine ds_set sc_law_k01.nd rfl (Or.inl v_law_k01_law_shots_here) ?_ rfl (Or.inl rfl)
                  refine d_callG (ok_l_shots fx) hG (hr.mono (by decide)) g_law_k01_law_shots fx.g_l_shots fx.u_l_shots.kp (bi_l_shots fx) tk ?_
                  refine da_cons ?_ ?_
                  · refine d_ix ?_ ?_ (fun _ _ => rfl)
                    · exact d_var 3 rfl (Or.inr (Or.inl c_law_k01_law_plain))
                    · exact d_int
                  · exact da_nil
                · refine ds_cons ?_ ?_
                  · refine ds_if ?_ ?_ ?_
                    · refine dt_not ?_
                      refine dt_val ?_
                      refine d_callG (ok_l_like fx) hG (hr.mono (by decide)) g_law_k01_law_like fx.g_l_like fx.u_l_like.kp (bi_l_like fx) tk ?_
                      refine da_cons ?_ ?_
                      · refine d_lst ?_
                        refine da_cons ?_ ?_
                        · refine d_meth0 fx.g_Setting fx.sc_Setting fx.me_Setting_shots (ok_m_Setting_shots fx) hG (hr.mono (by decide)) (bi_m_Setting_shots fx) tk ?_
                          exact d_var 7 rfl (Or.inr (Or.inl c_law_k01_law_setting))
                        · refine da_cons ?_ ?_
                          · refine d_lenO fx.g_Setting fx.me_Setting_len.at_ fx.me_Setting_len.fn (ok_m_Setting_len fx) (bi_m_Setting_len fx) hG (hr.mono (by decide)) g_law_k01_len fx.n_len ?_
                            exact d_var 7 rfl (Or.inr (Or.inl c_law_k01_law_setting))
                          · exact da_nil
                      · refine da_cons ?_ ?_
                        · refine d_lst ?_
                          refine da_cons ?_ ?_
                          · refine d_Ty call_tuple_of b_tuple g_law_k01_tuple fx.n_tuple PyProof.Rows.boot_tuple ?_
                            refine da_cons ?_ ?_
                            · exact d_var 4 rfl (Or.inl v_law_k01_law_shots_here)
                            · exact da_nil
                          · refine da_cons ?_ ?_
                            · refine d_B call_len b_len g_law_k01_len fx.n_len PySem.boot_len ?_
                              refine da_cons ?_ ?_
                              · exact d_var 4 rfl (Or.inl v_law_k01_law_shots_here)
                              · exact da_nil
                            · exact da_nil
                        · exact da_nil
                    · refine ds_one ?_
                      refine ds_ret ?_
                      exact d_bl
                    · exact ds_nil
                  · refine ds_cons ?_ ?_
                    · refine ds_if ?_ ?_ ?_
                      · refine dt_not ?_
                        refine dt_val ?_
                        refine d_callG (ok_l_like fx) hG (hr.mono (by decide)) g_law_k01_law_like fx.g_l_like fx.u_l_like.kp (bi_l_like fx) tk ?_
                        refine da_cons ?_ ?_
                        · refine d_lc (own := [("_law_shot", 10)]) rfl sc_law_k01.nd ?_ (blkOk_by (by rfl)) (fun _ _ _ _ _ => ?_) (fun _ _ _ _ _ => ?_) (fun _ _ _ _ _ => ?_) (tgIn_name (by decide))
                          · refine di_seq ?_
                            exact d_var 4 rfl (Or.inl v_law_k01_law_shots_here)
                          · exact dg_name sc_law_k01.nd rfl (Or.inl (blk_loc (by decide +kernel))) (Or.inr rfl)
                          · exact dts_nil
                          · refine d_ixO fx.g_Setting fx.me_Setting_getitem.at_ fx.fi_Setting_getitem fx.me_Setting_getitem.fn (ok_m_Setting_getitem fx) (bi_m_Setting_getitem fx) hG (hr.mono (by decide)) takes0 ?_ ?_ (fun _ _ => rfl) (fun _ _ => rfl)
                            · exact d_var 7 rfl (blk_free (by decide +kernel))
                            · exact d_var 10 rfl (blk_vis (by decide +kernel))
                        · refine da_cons ?_ ?_
                          · refine d_lc (own := [("_law_shot", 10)]) rfl sc_law_k01.nd ?_ (blkOk_by (by rfl)) (fun _ _ _ _ _ => ?_) (fun _ _ _ _ _ => ?_) (fun _ _ _ _ _ => ?_) (tgIn_name (by decide))
                            · refine di_seq ?_
                              exact d_var 4 rfl (Or.inl v_law_k01_law_shots_here)
                            · exact dg_name sc_law_k01.nd rfl (Or.inl (blk_loc (by decide +kernel))) (Or.inr rfl)
                            · exact dts_nil
                            · refine d_ix ?_ ?_ (fun _ _ => rfl)
                              · refine d_ix ?_ ?_ (fun _ _ => rfl)
                                · refine d_ix ?_ ?_ (fun _ _ => rfl)
                                  · exact d_var 3 rfl (blk_free (by decide +kernel))
                                  · exact d_int
                                · refine d_ix ?_ ?_ (fun _ _ => rfl)
                                  · exact d_var 10 rfl (blk_vis (by decide +kernel))
                                  · exact d_int
                              · refine d_ix ?_ ?_ (fun _ _ => rfl)
                                · exact d_var 10 rfl (blk_vis (by decide +kernel))
                                · exact d_int
                          · exact da_nil
                      · refine ds_one ?_
                        refine ds_ret ?_
                        exact d_bl
                      · exact ds_nil
                    · refine ds_cons ?_ ?_
                      · refine ds_set sc_law_k01.nd rfl (Or.inl v_law_k01_law_other) ?_ rfl (Or.inl rfl)
                        refine d_makeE (ks := ["gap"]) fx.mk_Setting (ok_m_Setting_init fx) hG (hr.mono (by decide)) g_law_k01_Setting fx.g_Setting (kb_Setting_3_gap fx) gd_full tk ?_ ?_
                        · refine da_cons ?_ ?_
                          · refine d_ix ?_ ?_ (fun _ _ => rfl)
                            · exact d_var 3 rfl (Or.inr (Or.inl c_law_k01_law_plain))
                            · exact d_int
                          · refine da_cons ?_ ?_
                            · refine d_ix ?_ ?_ (fun _ _ => rfl)
                              · exact d_var 3 rfl (Or.inr (Or.inl c_law_k01_law_plain))
                              · exact d_int
                            · refine da_cons ?_ ?_
                              · refine d_ix ?_ ?_ (fun _ _ => rfl)
                                · exact d_var 3 rfl (Or.inr (Or.inl c_law_k01_law_plain))
                                · exact d_int
                              · exact da_nil
                        · refine dk_cons ?_ ?_
                          · refine d_op op_addD o2_add ?_ ?_
                            · refine d_op op_mod o2_mod ?_ ?_
                              · refine d_Ty call_int1 b_int g_law_k01_int fx.n_int PyProof.Rows.boot_int ?_
                                refine da_cons ?_ ?_
                                · refine d_ix ?_ ?_ (fun _ _ => rfl)
                                  · exact d_var 3 rfl (Or.inr (Or.inl c_law_k01_law_plain))
                                  · exact d_int
                                · exact da_nil
                              · refine d_op op_pow o2_pow ?_ ?_
                                · exact d_int
                                · exact d_int
                            · exact d_int
                          · exact dk_nil
                      · refine ds_cons ?_ ?_
                        · refine ds_set sc_law_k01.nd rfl (Or.inl v_law_k01_law_told) ?_ rfl (Or.inl rfl)
                          refine d_lst ?_
                          refine da_cons ?_ ?_
                          · refine d_cmpO (op_eqO (op_eqP hr.units) fx.g_Setting fx.me_Setting_eq.at_ fx.me_Setting_eq.fn fx.nf_Setting.2.2 (ok_m_Setting_eq fx) (bi_m_Setting_eq fx) hG (hr.mono (by decide))) o2_eq ?_ ?_ (nomark _)
                            · exact d_var 7 rfl (Or.inr (Or.inl c_law_k01_law_setting))
                            · exact d_var 8 rfl (Or.inl v_law_k01_law_near)
                          · refine da_cons ?_ ?_
                            · refine d_cmpO (op_neO (op_neP hr.units) fx.g_Setting fx.nf_Setting.1 fx.nf_Setting.2.1 fx.me_Setting_eq.at_ fx.me_Setting_eq.fn fx.nf_Setting.2.2 (ok_m_Setting_eq fx) (bi_m_Setting_eq fx) hG (hr.mono (by decide))) o2_ne ?_ ?_ (nomark _)
                              · exact d_var 7 rfl (Or.inr (Or.inl c_law_k01_law_setting))
                              · exact d_var 8 rfl (Or.inl v_law_k01_law_near)
                            · refine da_cons ?_ ?_
                              · refine d_cmpO (op_eqO (op_eqP hr.units) fx.g_Setting fx.me_Setting_eq.at_ fx.me_Setting_eq.fn fx.nf_Setting.2.2 (ok_m_Setting_eq fx) (bi_m_Setting_eq fx) hG (hr.mono (by decide))) o2_eq ?_ ?_ (nomark _)
                                · exact d_var 7 rfl (Or.inr (Or.inl c_law_k01_law_setting))
                                · exact d_var 5 rfl (Or.inl v_law_k01_law_other)
                              · refine da_cons ?_ ?_
                                · refine d_cmpO (op_neO (op_neP hr.units) fx.g_Setting fx.nf_Setting.1 fx.nf_Setting.2.1 fx.me_Setting_eq.at_ fx.me_Setting_eq.fn fx.nf_Setting.2.2 (ok_m_Setting_eq fx) (bi_m_Setting_eq fx) hG (hr.mono (by decide))) o2_ne ?_ ?_ (nomark _)
                                  · exact d_var 7 rfl (Or.inr (Or.inl c_law_k01_law_setting))
                                  · exact d_var 5 rfl (Or.inl v_law_k01_law_other)
                                · refine da_cons ?_ ?_
                                  · refine d_cmpO (op_eqO (op_eqP hr.units) fx.g_Setting fx.me_Setting_eq.at_ fx.me_Setting_eq.fn fx.nf_Setting.2.2 (ok_m_Setting_eq fx) (bi_m_Setting_eq fx) hG (hr.mono (by decide))) o2_eq ?_ ?_ (nomark _)
                                    · exact d_var 7 rfl (Or.inr (Or.inl c_law_k01_law_setting))
                                    · exact d_var 3 rfl (Or.inr (Or.inl c_law_k01_law_plain))
                                  · refine da_cons ?_ ?_
                                    · refine d_cmpO (op_eqO (op_eqP hr.units) fx.g_Setting fx.me_Setting_eq.at_ fx.me_Setting_eq.fn fx.nf_Setting.2.2 (ok_m_Setting_eq fx) (bi_m_Setting_eq fx) hG (hr.mono (by decide))) o2_eq ?_ ?_ (nomark _)
                                      · exact d_var 7 rfl (Or.inr (Or.inl c_law_k01_law_setting))
                                      · exact d_int
                                    · exact da_nil
                        · refine ds_cons ?_ ?_
                          · refine ds_if ?_ ?_ ?_
                            · refine dt_not ?_
                              refine dt_val ?_
                              refine d_callG (ok_l_like fx) hG (hr.mono (by decide)) g_law_k01_law_like fx.g_l_like fx.u_l_like.kp (bi_l_like fx) tk ?_
                              refine da_cons ?_ ?_
                              · exact d_var 6 rfl (Or.inl v_law_k01_law_told)
                              · refine da_cons ?_ ?_
                                · refine d_lst ?_
                                  refine da_cons ?_ ?_
                                  · exact d_bl
                                  · refine da_cons ?_ ?_
                                    · exact d_bl
                                    · refine da_cons ?_ ?_
                                      · exact d_bl
                                      · refine da_cons ?_ ?_
                                        · exact d_bl
                                        · refine da_cons ?_ ?_
                                          · exact d_bl
                                          · refine da_cons ?_ ?_
                                            · exact d_bl
                                            · exact da_nil
                                · exact da_nil
                            · refine ds_one ?_
                              refine ds_ret ?_
                              exact d_bl
                            · exact ds_nil
                          · refine ds_one ?_
                            refine ds_if ?_ ?_ ?_
                            · refine dt_cmp (op_neP hr.units) o2_ne ?_ ?_ (nomark _)
                              · refine d_lc (own := [("_law_one", 9)]) rfl sc_law_k01.nd ?_ (blkOk_by (by rfl)) (fun _ _ _ _ _ => ?_) (fun _ _ _ _ _ => ?_) (fun _ _ _ _ _ => ?_) (tgIn_name (by decide))
                                · refine di_seq ?_
                                  refine d_callG (ok_l_unlike fx) hG (hr.mono (by decide)) g_law_k01_law_unlike fx.g_l_unlike fx.u_l_unlike.kp (bi_l_unlike fx) tk ?_
                                  refine da_cons ?_ ?_
                                  · exact d_var 3 rfl (Or.inr (Or.inl c_law_k01_law_plain))
                                  · exact da_nil
                                · exact dg_name sc_law_k01.nd rfl (Or.inl (blk_loc (by decide +kernel))) (Or.inr rfl)
                                · refine dts_one ?_
                                  refine Dw.t ?_
                                  refine dw_or ?_ ?_
                                  · refine dt_cmpO (op_eqO (op_eqP hr.units) fx.g_Setting fx.me_Setting_eq.at_ fx.me_Setting_eq.fn fx.nf_Setting.2.2 (ok_m_Setting_eq fx) (bi_m_Setting_eq fx) hG (hr.mono (by decide))) o2_eq ?_ ?_ (nomark _)
                                    · exact d_var 9 rfl (blk_vis (by decide +kernel))
                                    · exact d_var 7 rfl (blk_free (by decide +kernel))
                                  · refine dw_or ?_ ?_
                                    · refine dt_cmpO (op_eqO (op_eqP hr.units) fx.g_Setting fx.me_Setting_eq.at_ fx.me_Setting_eq.fn fx.nf_Setting.2.2 (ok_m_Setting_eq fx) (bi_m_Setting_eq fx) hG (hr.mono (by decide))) o2_eq ?_ ?_ (nomark _)
                                      · exact d_var 7 rfl (blk_free (by decide +kernel))
                                      · exact d_var 9 rfl (blk_vis (by decide +kernel))
                                    · refine dw_or1 ?_
                                      refine dt_not ?_
                                      refine dt_cmpO (op_neO (op_neP hr.units) fx.g_Setting fx.nf_Setting.1 fx.nf_Setting.2.1 fx.me_Setting_eq.at_ fx.me_Setting_eq.fn fx.nf_Setting.2.2 (ok_m_Setting_eq fx) (bi_m_Setting_eq fx) hG (hr.mono (by decide))) o2_ne ?_ ?_ (nomark _)
                                      · exact d_var 9 rfl (blk_vis (by decide +kernel))
                                      · exact d_var 7 rfl (blk_free (by decide +kernel))
                                · exact d_int
                              · refine d_lst ?_
                                exact da_nil
                            · refine ds_one ?_
                              refine ds_ret ?_
                              exact d_bl
                            · exact ds_nil
    · refine ds_one ?_
      refine ds_ret ?_
      refine d_cmp (op_eqP hr.units) o2_eq ?_ ?_ (nomark _)
      · refine d_tup ?_
        refine da_cons ?_ ?_
        · exact d_glob (d := .int 3) (v := .int 3) g_law_k01_MOST_CAMERAS fx.c_MOST_CAMERAS ⟨_, rfl⟩ rfl
        · refine da_cons ?_ ?_
          · exact d_glob (d := .int 12) (v := .int 12) g_law_k01_MOST_SHOTS fx.c_MOST_SHOTS ⟨_, rfl⟩ rfl
          · refine da_cons ?_ ?_
            · exact d_glob (d := .int 12) (v := .int 12) g_law_k01_MOST_TIES fx.c_MOST_TIES ⟨_, rfl⟩ rfl
            · refine da_cons ?_ ?_
              · exact d_glob (d := .int 1000000000) (v := .int 1000000000) g_law_k01_FAR fx.c_FAR ⟨_, rfl⟩ rfl
              · refine da_cons ?_ ?_
                · exact d_glob (d := .int 10000000000) (v := .int 10000000000) g_law_k01_WIDE fx.c_WIDE ⟨_, rfl⟩ rfl
                · exact da_nil
      · refine d_tup ?_
        refine da_cons ?_ ?_
        · exact d_int
        · refine da_cons ?_ ?_
          · exact d_int
          · refine da_cons ?_ ?_
            · exact d_int
            · refine da_cons ?_ ?_
              · refine d_op op_pow o2_pow ?_ ?_
                · exact d_int
                · exact d_int
              · refine da_cons ?_ ?_
                · refine d_op op_pow o2_pow ?_ ?_
                  · exact d_int
                  · exact d_int
                · exact da_nil
theorem ok_law_k01 {P : Program} {w : World} {K : PySem.W.Frag} {mg : Str → Option Value} {base : Heap} (fx : Fx K mg) : FnG P w K mg base (L2.CX P w) 9 (f_law_k01 K) fx.fd_law_k01 ["_law_script"] (spF K mg 1 F_law_k01) := okA_law_k01 fx
def tests : List GH.Fc := [fun K => (He.Fa.free "all").ok K,
  fun K => (He.Fa.free "bool").ok K,
  fun K => (He.Fa.free "enumerate").ok K,
  fun K => (He.Fa.free "int").ok K,
  fun K => (He.Fa.free "isinstance").ok K,
  fun K => (He.Fa.free "len").ok K,
  fun K => (He.Fa.free "min").ok K,
  fun K => (He.Fa.free "range").ok K,
  fun K => (He.Fa.free "repr").ok K,
  fun K => (He.Fa.free "sorted").ok K,
  fun K => (He.Fa.free "sum").ok K,
  fun K => (He.Fa.free "tuple").ok K,
  fun K => (He.Fa.int "FAR" 1000000000).ok K,
  fun K => (He.Fa.int "MOST_CAMERAS" 3).ok K,
  fun K => (He.Fa.int "MOST_SHOTS" 12).ok K,
  fun K => (He.Fa.int "MOST_TIES" 12).ok K,
  fun K => (He.Fa.int "WIDE" 10000000000).ok K,
  fun K => (He.Fa.glo "_law_begun").ok K,
  fun K => (He.Fa.glo "_law_draw").ok K,
  fun K => (He.Fa.glo "_law_wide").ok K,
  fun K => (He.Fa.glo "_law_stamps").ok K,
  fun K => (He.Fa.glo "_law_cameras").ok K,
  fun K => (He.Fa.glo "_law_shots").ok K,
  fun K => (He.Fa.glo "_law_far").ok K,
  fun K => (He.Fa.glo "is_whole").ok K,
  fun K => (He.Fa.glo "need_cameras").ok K,
  fun K => (He.Fa.glo "is_pair").ok K,
  fun K => (He.Fa.glo "are_bounds").ok K,
  fun K => (He.Fa.glo "is_camera").ok K,
  fun K => (He.Fa.glo "is_shot").ok K,
  fun K => (He.Fa.glo "is_tie").ok K,
  fun K => (He.Fa.glo "need_rest").ok K,
  fun K => (He.Fa.glo "_law_made").ok K,
  fun K => (He.Fa.glo "_law_like").ok K,
  fun K => (He.Fa.glo "_law_unlike").ok K,
  fun K => (He.Fa.glo "law").ok K,
  fun K => (He.Fa.glo "Setting").ok K,
  GH.fSCls "Setting",
  GH.fSIsi "Setting",
  GH.fIs "Setting" [("Setting", true)],
  GH.fSlot "Setting" "gap" 2,
  GH.fSlot "Setting" "ties" 3,
  GH.fSlot "Setting" "bounds" 0,
  GH.fSlot "Setting" "cameras" 1,
  fun K => (He.Fa.meth "Setting" "__len__").ok K,
  fun K => (He.Fa.meth "Setting" "shots").ok K,
  fun K => (He.Fa.meth "Setting" "__getitem__").ok K,
  GH.fFnIn "Setting" "__getitem__",
  fun K => (He.Fa.mkr "Setting").ok K,
  fun K => (He.Fa.meth "Setting" "__eq__").ok K,
  GH.fEq "Setting" ["Setting"]]
def defs : List He5.DefA := [⟨f_l_begun, "_law_begun", "_law_begun", defArgs s_l_begun, defBody s_l_begun, defScope s_l_begun, [], []⟩,
  ⟨f_l_draw, "_law_draw", "_law_draw", defArgs s_l_draw, defBody s_l_draw, defScope s_l_draw, [], []⟩,
  ⟨f_l_wide, "_law_wide", "_law_wide", defArgs s_l_wide, defBody s_l_wide, defScope s_l_wide, [], []⟩,
  ⟨f_l_stamps, "_law_stamps", "_law_stamps", defArgs s_l_stamps, defBody s_l_stamps, defScope s_l_stamps, [], []⟩,
  ⟨f_l_cameras, "_law_cameras", "_law_cameras", defArgs s_l_cameras, defBody s_l_cameras, defScope s_l_cameras, [], []⟩,
  ⟨f_l_shots, "_law_shots", "_law_shots", defArgs s_l_shots, defBody s_l_shots, defScope s_l_shots, [], []⟩,
  ⟨f_l_far, "_law_far", "_law_far", defArgs s_l_far, defBody s_l_far, defScope s_l_far, [], []⟩,
  ⟨f_p_is_whole, "is_whole", "is_whole", defArgs s_p_is_whole, defBody s_p_is_whole, defScope s_p_is_whole, [], []⟩,
  ⟨f_p_need_cameras, "need_cameras", "need_cameras", defArgs s_p_need_cameras, defBody s_p_need_cameras, defScope s_p_need_cameras, [], []⟩,
  ⟨f_p_is_pair, "is_pair", "is_pair", defArgs s_p_is_pair, defBody s_p_is_pair, defScope s_p_is_pair, [], []⟩,
  ⟨f_p_are_bounds, "are_bounds", "are_bounds", defArgs s_p_are_bounds, defBody s_p_are_bounds, defScope s_p_are_bounds, [], []⟩,
  ⟨f_p_is_camera, "is_camera", "is_camera", defArgs s_p_is_camera, defBody s_p_is_camera, defScope s_p_is_camera, [], []⟩,
  ⟨f_p_is_shot, "is_shot", "is_shot", defArgs s_p_is_shot, defBody s_p_is_shot, defScope s_p_is_shot, [], []⟩,
  ⟨f_p_is_tie, "is_tie", "is_tie", defArgs s_p_is_tie, defBody s_p_is_tie, defScope s_p_is_tie, [], []⟩,
  ⟨f_p_need_rest, "need_rest", "need_rest", defArgs s_p_need_rest, defBody s_p_need_rest, defScope s_p_need_rest, [], []⟩,
  ⟨f_m_Setting_init, "__init__", "Setting.__init__", defArgs s_m_Setting_init, defBody s_m_Setting_init, defScope s_m_Setting_init, [.adr (He.dflAt ("Setting", some "__init__") 0)], [("gap", .int 3600)]⟩,
  ⟨f_l_made, "_law_made", "_law_made", defArgs s_l_made, defBody s_l_made, defScope s_l_made, [], []⟩,
  ⟨f_l_like, "_law_like", "_law_like", defArgs s_l_like, defBody s_l_like, defScope s_l_like, [], []⟩,
  ⟨f_m_Setting_shots, "shots", "Setting.shots", defArgs s_m_Setting_shots, defBody s_m_Setting_shots, defScope s_m_Setting_shots, [], []⟩,
  ⟨f_m_Setting_len, "__len__", "Setting.__len__", defArgs s_m_Setting_len, defBody s_m_Setting_len, defScope s_m_Setting_len, [], []⟩,
  ⟨f_m_Setting_getitem, "__getitem__", "Setting.__getitem__", defArgs s_m_Setting_getitem, defBody s_m_Setting_getitem, defScope s_m_Setting_getitem, [], []⟩,
  ⟨f_m_Setting_eq, "__eq__", "Setting.__eq__", defArgs s_m_Setting_eq, defBody s_m_Setting_eq, defScope s_m_Setting_eq, [], []⟩,
  ⟨f_l_unlike, "_law_unlike", "_law_unlike", defArgs s_l_unlike, defBody s_l_unlike, defScope s_l_unlike, [], []⟩,
  ⟨f_law_k01, "law", "law", defArgs s_law_k01, defBody s_law_k01, defScope s_law_k01, [], []⟩]
theorem fx_of {K : PySem.W.Frag} {h : Heap} {mg : Str → Option Value} (X : K.In h) (G : h.Ns mainGlobals mg) (c : GH.SaysF tests defs K) : Nonempty (Fx K mg) := by
  obtain ⟨t_FAR, c_FAR⟩ := He.int_ok X G (c.fact 12)
  obtain ⟨t_MOST_CAMERAS, c_MOST_CAMERAS⟩ := He.int_ok X G (c.fact 13)
  obtain ⟨t_MOST_SHOTS, c_MOST_SHOTS⟩ := He.int_ok X G (c.fact 14)
  obtain ⟨t_MOST_TIES, c_MOST_TIES⟩ := He.int_ok X G (c.fact 15)
  obtain ⟨t_WIDE, c_WIDE⟩ := He.int_ok X G (c.fact 16)
  obtain ⟨fd_l_begun, u_l_begun⟩ := c.def_ 0
  obtain ⟨fd_l_draw, u_l_draw⟩ := c.def_ 1
  obtain ⟨fd_l_wide, u_l_wide⟩ := c.def_ 2
  obtain ⟨fd_l_stamps, u_l_stamps⟩ := c.def_ 3
  obtain ⟨fd_l_cameras, u_l_cameras⟩ := c.def_ 4
  obtain ⟨fd_l_shots, u_l_shots⟩ := c.def_ 5
  obtain ⟨fd_l_far, u_l_far⟩ := c.def_ 6
  obtain ⟨fd_p_is_whole, u_p_is_whole⟩ := c.def_ 7
  obtain ⟨fd_p_need_cameras, u_p_need_cameras⟩ := c.def_ 8
  obtain ⟨fd_p_is_pair, u_p_is_pair⟩ := c.def_ 9
  obtain ⟨fd_p_are_bounds, u_p_are_bounds⟩ := c.def_ 10
  obtain ⟨fd_p_is_camera, u_p_is_camera⟩ := c.def_ 11
  obtain ⟨fd_p_is_shot, u_p_is_shot⟩ := c.def_ 12
  obtain ⟨fd_p_is_tie, u_p_is_tie⟩ := c.def_ 13
  obtain ⟨fd_p_need_rest, u_p_need_rest⟩ := c.def_ 14
  obtain ⟨fd_m_Setting_init, u_m_Setting_init⟩ := c.def_ 15
  obtain ⟨fd_l_made, u_l_made⟩ := c.def_ 16
  obtain ⟨fd_l_like, u_l_like⟩ := c.def_ 17
  obtain ⟨fd_m_Setting_shots, u_m_Setting_shots⟩ := c.def_ 18
  obtain ⟨fd_m_Setting_len, u_m_Setting_len⟩ := c.def_ 19
  obtain ⟨fd_m_Setting_getitem, u_m_Setting_getitem⟩ := c.def_ 20
  obtain ⟨fd_m_Setting_eq, u_m_Setting_eq⟩ := c.def_ 21
  obtain ⟨fd_l_unlike, u_l_unlike⟩ := c.def_ 22
  obtain ⟨fd_law_k01, u_law_k01⟩ := c.def_ 23
  have g_Setting : mg "Setting" = some (.ref (He.ga K "Setting")) := by have e := c.fact 36; exact He.glo_ok X G e
  have sc_Setting : SlX.SCls K (He.ga K "Setting") := by have e := c.fact 37; exact GH.scls_ok e
  have si_Setting : SlX.SIsi K (He.ga K "Setting") := by have e := c.fact 38; exact GH.sisi_ok e
  have is_Setting : IsC K mg (He.ga K "Setting") [("Setting", true)] := by have e := c.fact 39; exact GH.is_ok e fun p hp => by have z : p = (("Setting" : Str), true) := List.mem_singleton.mp hp; rw [z]; exact ⟨g_Setting, sc_Setting, si_Setting⟩
  have sl_Setting_gap : SlX.Slot1 K (He.ga K "Setting") "gap" (He.ma K (He.ga K "Setting") "gap") 2 := by have e := c.fact 40; exact GH.slot_ok (by decide) e
  have sl_Setting_ties : SlX.Slot1 K (He.ga K "Setting") "ties" (He.ma K (He.ga K "Setting") "ties") 3 := by have e := c.fact 41; exact GH.slot_ok (by decide) e
  have sl_Setting_bounds : SlX.Slot1 K (He.ga K "Setting") "bounds" (He.ma K (He.ga K "Setting") "bounds") 0 := by have e := c.fact 42; exact GH.slot_ok (by decide) e
  have sl_Setting_cameras : SlX.Slot1 K (He.ga K "Setting") "cameras" (He.ma K (He.ga K "Setting") "cameras") 1 := by have e := c.fact 43; exact GH.slot_ok (by decide) e
  have me_Setting_len : Meth K (He.ga K "Setting") "__len__" (He.ma K (He.ga K "Setting") "__len__") := by have e := c.fact 44; exact He.meth_ok e
  have me_Setting_shots : Meth K (He.ga K "Setting") "shots" (He.ma K (He.ga K "Setting") "shots") := by have e := c.fact 45; exact He.meth_ok e
  have me_Setting_getitem : Meth K (He.ga K "Setting") "__getitem__" (He.ma K (He.ga K "Setting") "__getitem__") := by have e := c.fact 46; exact He.meth_ok e
  have fi_Setting_getitem : PySem.W.fnIn K (He.ma K (He.ga K "Setting") "__getitem__") = true := by have e := c.fact 47; exact e
  have mk_Setting : Mk K (He.ga K "Setting") (He.ma K (He.ga K "Setting") "__init__") := by have e := c.fact 48; exact He.mkr_ok e
  have me_Setting_eq : Meth K (He.ga K "Setting") "__eq__" (He.ma K (He.ga K "Setting") "__eq__") := by have e := c.fact 49; exact He.meth_ok e
  have nf_Setting : PySem.W.findIn K (.ref (He.ga K "Setting")) "__ne__" = some (some (.builtin "object.__ne__")) ∧ PySem.W.subIn K (.ref (He.ga K "Setting")) (.type "object") = some true ∧ NF K mg (He.ga K "Setting") ["Setting"] := by have e := c.fact 50; exact GH.eq_ok e fun d hd => by have z : d = "Setting" := List.mem_singleton.mp hd; rw [z]; exact g_Setting
  exact ⟨⟨He.free_ok X G (c.fact 0),
    He.free_ok X G (c.fact 1),
    He.free_ok X G (c.fact 2),
    He.free_ok X G (c.fact 3),
    He.free_ok X G (c.fact 4),
    He.free_ok X G (c.fact 5),
    He.free_ok X G (c.fact 6),
    He.free_ok X G (c.fact 7),
    He.free_ok X G (c.fact 8),
    He.free_ok X G (c.fact 9),
    He.free_ok X G (c.fact 10),
    He.free_ok X G (c.fact 11),
    t_FAR,
    c_FAR,
    t_MOST_CAMERAS,
    c_MOST_CAMERAS,
    t_MOST_SHOTS,
    c_MOST_SHOTS,
    t_MOST_TIES,
    c_MOST_TIES,
    t_WIDE,
    c_WIDE,
    fd_l_begun,
    He5.fun_of u_l_begun,
    He.glo_ok X G (c.fact 17),
    fd_l_draw,
    He5.fun_of u_l_draw,
    He.glo_ok X G (c.fact 18),
    fd_l_wide,
    He5.fun_of u_l_wide,
    He.glo_ok X G (c.fact 19),
    fd_l_stamps,
    He5.fun_of u_l_stamps,
    He.glo_ok X G (c.fact 20),
    fd_l_cameras,
    He5.fun_of u_l_cameras,
    He.glo_ok X G (c.fact 21),
    fd_l_shots,
    He5.fun_of u_l_shots,
    He.glo_ok X G (c.fact 22),
    fd_l_far,
    He5.fun_of u_l_far,
    He.glo_ok X G (c.fact 23),
    fd_p_is_whole,
    He5.fun_of u_p_is_whole,
    He.glo_ok X G (c.fact 24),
    fd_p_need_cameras,
    He5.fun_of u_p_need_cameras,
    He.glo_ok X G (c.fact 25),
    fd_p_is_pair,
    He5.fun_of u_p_is_pair,
    He.glo_ok X G (c.fact 26),
    fd_p_are_bounds,
    He5.fun_of u_p_are_bounds,
    He.glo_ok X G (c.fact 27),
    fd_p_is_camera,
    He5.fun_of u_p_is_camera,
    He.glo_ok X G (c.fact 28),
    fd_p_is_shot,
    He5.fun_of u_p_is_shot,
    He.glo_ok X G (c.fact 29),
    fd_p_is_tie,
    He5.fun_of u_p_is_tie,
    He.glo_ok X G (c.fact 30),
    fd_p_need_rest,
    He5.fun_of u_p_need_rest,
    He.glo_ok X G (c.fact 31),
    fd_m_Setting_init,
    u_m_Setting_init,
    fd_l_made,
    He5.fun_of u_l_made,
    He.glo_ok X G (c.fact 32),
    fd_l_like,
    He5.fun_of u_l_like,
    He.glo_ok X G (c.fact 33),
    fd_m_Setting_shots,
    He5.fun_of u_m_Setting_shots,
    fd_m_Setting_len,
    He5.fun_of u_m_Setting_len,
    fd_m_Setting_getitem,
    He5.fun_of u_m_Setting_getitem,
    fd_m_Setting_eq,
    He5.fun_of u_m_Setting_eq,
    fd_l_unlike,
    He5.fun_of u_l_unlike,
    He.glo_ok X G (c.fact 34),
    fd_law_k01,
    He5.fun_of u_law_k01,
    He.glo_ok X G (c.fact 35),
    g_Setting,
    sc_Setting,
    si_Setting,
    is_Setting,
    sl_Setting_gap,
    sl_Setting_ties,
    sl_Setting_bounds,
    sl_Setting_cameras,
    me_Setting_len,
    me_Setting_shots,
    me_Setting_getitem,
    fi_Setting_getitem,
    mk_Setting,
    me_Setting_eq,
    nf_Setting⟩⟩
def loose0 : List Str := ["_wall", "__name__", "AlbumError", "BadSetting", "BadShot", "TooMany", "MOST_CAMERAS", "MOST_SHOTS", "MOST_TIES", "FAR", "WIDE", "is_whole", "is_pair", "is_camera", "is_shot", "are_bounds", "is_tie", "need_cameras", "need_rest", "Setting", "_law_begun", "_law_draw", "_law_wide", "_law_stamps", "_law_cameras", "_law_shots", "_law_made", "_law_like", "_law_far", "_law_unlike"]
def loose : List Str := loose0
abbrev R : PySem.W.OpenRow := PySem.W.OpenLaw.row PySem.Challenge.rw_gapalbums_k01_settings_made
abbrev hk : PySem.W.Hook := GH.hookF 6 tests defs
def ob (s : PySem.W.SharedT) : He.AlD := GH.obsFG 6 tests defs (HandSHeadRun.getT s)
theorem ob_eq (s : PySem.W.SharedT) : ob s = hk.obs s.abs := GH.obsFG_eq (HandSHeadRun.getT_eq s)
theorem run (w : World) : HandSHeadRun.RunEq R (PySem.W.view R.prog [32]) hk ob 4000 loose w := by
  intro os
  kernel_rfl
end LW
set_option Elab.async false
set_option linter.all false
set_option maxRecDepth 100000
set_option maxHeartbeats 2000000
namespace GP
open PySem GI
abbrev XP := Str → List (Str × Dat) → Sto → Prop
def noX : XP := fun _ _ _ => False
def Is {α : Type} (o : Out α) (P : α → Sto → Prop) (E : XP := noX) : Prop := match o with
  | .ok a st => P a st
  | .ex c fs st => E c fs st
  | .bad => False
def oI {α : Type} (o : Option α) (P : α → Prop) : Prop := match o with
  | some a => P a
  | none => False
structure SP where
  nx : GI.Env → Sto → Prop := fun _ _ => False
  rt : Dat → Sto → Prop := fun _ _ => False
  bk : GI.Env → Sto → Prop := fun _ _ => False
  ct : GI.Env → Sto → Prop := fun _ _ => False
  ex : Str → List (Str × Dat) → GI.Env → Sto → Prop := fun _ _ _ _ => False
def sI (o : SOut) (D : SP) : Prop := match o with
  | .nx e st => D.nx e st
  | .rt d st => D.rt d st
  | .bk e st => D.bk e st
  | .ct e st => D.ct e st
  | .ex c fs e st => D.ex c fs e st
  | .bad => False
section
variable {α β : Type} {P : α → Sto → Prop} {Q : β → Sto → Prop} {env : GI.Env} {st : Sto} {D : SP} {E : XP}
theorem Is.imp {o : Out α} {P P' : α → Sto → Prop} {E E' : XP} (h : Is o P E) (i : ∀ a st, P a st → P' a st) (j : ∀ c fs st, E c fs st → E' c fs st) : Is o P' E' := by
  cases o with
  | ok a st => exact i a st h
  | ex c fs st => exact j c fs st h
  | bad => exact h
theorem Is.mono {o : Out α} {P P' : α → Sto → Prop} (h : Is o P E) (i : ∀ a st, P a st → P' a st) : Is o P' E := h.imp i fun _ _ _ z => z
theorem Is.any {o : Out α} {P : α → Sto → Prop} (h : Is o P) : Is o P E := h.imp (fun _ _ z => z) fun _ _ _ z => z.elim
theorem Is.to {o : Out α} {P P' : α → Sto → Prop} (h : Is o P) (i : ∀ a st, P a st → P' a st) : Is o P' E := h.imp i fun _ _ _ z => z.elim
theorem Is.ex {o : Out α} {P : α → Sto → Prop} (h : Is o P) : ∃ a st, o = .ok a st ∧ P a st := by
  cases o with
  | ok a st => exact ⟨a, st, rfl, h⟩
  | ex _ _ _ => exact h.elim
  | bad => exact h.elim
theorem is_ok {a : α} : Is (.ok a st) P E ↔ P a st := Iff.rfl
theorem is_ex {c : Str} {fs : List (Str × Dat)} : Is (.ex c fs st : Out α) P E ↔ E c fs st := Iff.rfl
theorem is_bad : Is (.bad : Out α) P E ↔ False := Iff.rfl
theorem is_bind {o : Out α} {k : α → Sto → Out β} : Is (o.bind k) Q E ↔ Is o (fun a st1 => Is (k a st1) Q E) E := by
  cases o <;> exact Iff.rfl
theorem is_of {o : Option α} : Is (Out.of o st) P E ↔ oI o (P · st) := by
  cases o <;> exact Iff.rfl
theorem oi_some {a : α} {P : α → Prop} : oI (some a) P ↔ P a := Iff.rfl
theorem oi_none {P : α → Prop} : oI (none : Option α) P ↔ False := Iff.rfl
theorem oI.mono {o : Option α} {P P' : α → Prop} (h : oI o P) (i : ∀ a, P a → P' a) : oI o P' := by
  cases o with
  | some a => exact i a h
  | none => exact h
theorem si_go {o : Out α} {k : α → Sto → SOut} : sI (o.go env k) D ↔ Is o (fun a st1 => sI (k a st1) D) (fun c fs st1 => D.ex c fs env st1) := by
  cases o <;> exact Iff.rfl
variable {R : Dat → Sto → Prop} {RL : List Dat → Sto → Prop} {fa fb fc ft fe : Ev} {fl fr : EvL}
theorem is_C {d : Dat} : Is (sC d env st) R E ↔ R d st := Iff.rfl
def vI (s : Option (Option Slot)) (P : Dat → Prop) : Prop := match s with
  | some (some (.sh d)) => P d
  | _ => False
theorem is_Var {i : Nat} : Is (sVar i env st) R E ↔ vI env[i]? (R · st) := by
  unfold sVar
  generalize env[i]? = o
  match o with
  | none => exact Iff.rfl
  | some none => exact Iff.rfl
  | some (some (.sh d)) => exact Iff.rfl
  | some (some (.ow d)) => exact Iff.rfl
  | some (some (.ob c d)) => exact Iff.rfl
theorem vi_sh {d : Dat} {P : Dat → Prop} : vI (some (some (.sh d))) P ↔ P d := Iff.rfl
theorem is_2 {g : Dat → Dat → Option Dat} : Is (s2 g fa fb env st) R E ↔ Is (fa env st) (fun x st1 => Is (fb env st1) (fun y st2 => oI (g x y) (R · st2)) E) E := by
  unfold s2
  simp only [is_bind, is_of]
theorem is_1 {g : Dat → Option Dat} : Is (s1 g fa env st) R E ↔ Is (fa env st) (fun x st1 => oI (g x) (R · st1)) E := by
  unfold s1
  simp only [is_bind, is_of]
theorem is_Isi {T : String} : Is (sIsi T fa env st) R E ↔ Is (fa env st) (fun x st1 => oI (dIsi T x) (R · st1)) E := is_1
theorem is_B {g : List Dat → Option Dat} : Is (sB g fl env st) R E ↔ Is (fl env st) (fun x st1 => oI (g x) (R · st1)) E := by
  unfold sB
  simp only [is_bind, is_of]
theorem is_Nil : Is (sNil env st) RL E ↔ RL [] st := Iff.rfl
theorem is_Cons : Is (sCons fa fr env st) RL E ↔ Is (fa env st) (fun d st1 => Is (fr env st1) (fun ds st2 => RL (d :: ds) st2) E) E := by
  unfold sCons
  simp only [is_bind, is_ok]
theorem few_iff {ds : List Dat} : few ds = true ↔ ds.length ≤ 10000 := decide_eq_true_iff
theorem many_iff {ds : List Dat} : many ds = true ↔ ds.length ≤ 1000000 := decide_eq_true_iff
theorem is_Tup : Is (sTup fl env st) R E ↔ Is (fl env st) (fun ds st1 => ds.length ≤ 10000 ∧ R (.tup ds) st1) E := by
  unfold sTup
  rw [is_bind]
  refine Iff.of_eq (congrArg (fun z => Is _ z E) (funext fun ds => funext fun st1 => ?_))
  rw [← few_iff]
  split <;> simp_all [is_ok, is_bad]
theorem is_Lst : Is (sLst fl env st) R E ↔ Is (fl env st) (fun ds st1 => ds.length ≤ 10000 ∧ R (.lst ds) st1) E := by
  unfold sLst
  rw [is_bind]
  refine Iff.of_eq (congrArg (fun z => Is _ z E) (funext fun ds => funext fun st1 => ?_))
  rw [← few_iff]
  split <;> simp_all [is_ok, is_bad]
/-- a test's value -/
def bI (d : Dat) (A B : Prop) : Prop := match d with
  | .bl true => A
  | .bl false => B
  | _ => False
theorem bi_t {A B : Prop} : bI (.bl true) A B ↔ A := Iff.rfl
theorem bi_f {A B : Prop} : bI (.bl false) A B ↔ B := Iff.rfl
theorem bi_bl {b : Bool} {A B : Prop} : bI (.bl b) A B ↔ ((b = true → A) ∧ (b = false → B)) := by
  cases b <;> simp [bI]
theorem bi_dec {p : Prop} {i : Decidable p} {A B : Prop} : bI (.bl (decide p)) A B ↔ ((p → A) ∧ (¬ p → B)) := by
  by_cases h : p <;> simp [bI, h]
theorem is_Ite : Is (sIte ft fa fb env st) R E ↔ Is (ft env st) (fun d st1 => bI d (Is (fa env st1) R E) (Is (fb env st1) R E)) E := by
  unfold sIte
  rw [is_bind]
  refine Iff.of_eq (congrArg (fun z => Is _ z E) (funext fun d => funext fun st1 => ?_))
  cases d with
  | bl b => cases b <;> rfl
  | _ => rfl
theorem is_And : Is (sAnd fa fb env st) R E ↔ Is (fa env st) (fun d st1 => bI d (Is (fb env st1) R E) (R (.bl false) st1)) E := is_Ite
theorem is_Or : Is (sOr fa fb env st) R E ↔ Is (fa env st) (fun d st1 => bI d (R (.bl true) st1) (Is (fb env st1) R E)) E := is_Ite
theorem is_Call {n : Nat} {F : Fn} : Is (sCall n F fl env st) R E ↔ Is (fl env st) (fun ds st1 => ds.length = n ∧ Is (F ds st1) R E) E := by
  unfold sCall
  rw [is_bind]
  refine Iff.of_eq (congrArg (fun z => Is _ z E) (funext fun ds => funext fun st1 => ?_))
  split <;> simp_all [is_bad]
theorem is_Seq' : Is (iSeq fa env st) RL E ↔ Is (fa env st) (fun d st1 => oI (seqD d) (RL · st1)) E := by
  unfold iSeq
  simp only [is_bind, is_of]
theorem is_L {g : List Dat → Option (List Dat)} : Is (iL g fl env st) RL E ↔ Is (fl env st) (fun x st1 => oI (g x) (RL · st1)) E := by
  unfold iL
  simp only [is_bind, is_of]
theorem is_Chain {g g' : Dat → Dat → Option Dat} : Is (sChain g g' fa fb fc env st) R E ↔ Is (fa env st) (fun x st1 => Is (fb env st1) (fun y st2 => oI (g x y) fun d => bI d (Is (fc env st2) (fun z st3 => oI (g' y z) (R · st3)) E) (R (.bl false) st2)) E) E := by
  unfold sChain
  simp only [is_bind]
  refine Iff.of_eq (congrArg (fun z => Is _ z E) (funext fun x => funext fun st1 => congrArg (fun z => Is _ z E) (funext fun y => funext fun st2 => ?_)))
  cases g x y with
  | none => rfl
  | some d =>
    cases d with
    | bl b =>
      cases b
      · rfl
      · exact propext (by simp only [is_bind, is_of, oI, bI])
    | _ => rfl
variable {f g : Exe}
theorem si_nx {e : GI.Env} : sI (.nx e st) D ↔ D.nx e st := Iff.rfl
theorem si_rt {d : Dat} : sI (.rt d st) D ↔ D.rt d st := Iff.rfl
theorem si_Seq : sI (sSeq f g env st) D ↔ sI (f env st) { D with nx := fun e st1 => sI (g e st1) D } := by
  unfold sSeq
  cases f env st <;> exact Iff.rfl
theorem si_Skip : sI (sSkip env st) D ↔ D.nx env st := Iff.rfl
theorem si_Break : sI (sBreak env st) D ↔ D.bk env st := Iff.rfl
theorem si_Cont : sI (sCont env st) D ↔ D.ct env st := Iff.rfl
theorem si_Bad : sI (sBad env st) D ↔ False := Iff.rfl
theorem si_RetN : sI (sRetN env st) D ↔ D.rt .non st := Iff.rfl
theorem si_Asg {i : Nat} : sI (sAsg i fa env st) D ↔ Is (fa env st) (fun d st1 => D.nx (env.set i (some (.sh d))) st1) (fun c fs st1 => D.ex c fs env st1) := by
  unfold sAsg
  rw [si_go]
  exact Iff.rfl
theorem si_Ret : sI (sRet fa env st) D ↔ Is (fa env st) D.rt (fun c fs st1 => D.ex c fs env st1) := by
  unfold sRet
  rw [si_go]
  exact Iff.rfl
theorem si_Do : sI (sDo fa env st) D ↔ Is (fa env st) (fun _ st1 => D.nx env st1) (fun c fs st1 => D.ex c fs env st1) := by
  unfold sDo
  rw [si_go]
  exact Iff.rfl
theorem si_If : sI (sIf ft f g env st) D ↔ Is (ft env st) (fun d st1 => bI d (sI (f env st1) D) (sI (g env st1) D)) (fun c fs st1 => D.ex c fs env st1) := by
  unfold sIf
  rw [si_go]
  refine Iff.of_eq (congrArg (fun z => Is _ z _) (funext fun d => funext fun st1 => ?_))
  cases d with
  | bl b => cases b <;> rfl
  | _ => rfl
theorem si_For {t : Tg} : sI (sFor t fl f env st) D ↔ Is (fl env st) (fun ds st1 => sI (sForL t f ds env st1) D) (fun c fs st1 => D.ex c fs env st1) := by
  unfold sFor
  rw [si_go]
theorem si_AsgT {t : Tg} : sI (sAsgT t fa env st) D ↔ Is (fa env st) (fun d st1 => oI (t d) fun bs => D.nx (setE env bs) st1) (fun c fs st1 => D.ex c fs env st1) := by
  unfold sAsgT
  rw [si_go]
  refine Iff.of_eq (congrArg (fun z => Is _ z _) (funext fun d => funext fun st1 => ?_))
  cases t d <;> rfl
theorem is_fnF {n : Nat} {ds : List Dat} : Is (fnF n f ds st) R E ↔ sI (f (envOf n ds) st) { nx := fun _ st1 => R .non st1, rt := R, ex := fun c fs _ st1 => E c fs st1 } := by
  unfold fnF
  cases f (envOf n ds) st <;> exact Iff.rfl
/-- a loop by an invariant over what is left -/
theorem for_inv {t : Tg} (Inv : List Dat → GI.Env → Sto → Prop) (hi : ∀ d r env st, Inv (d :: r) env st → oI (t d) fun bs => sI (f (setE env bs) st) { D with nx := Inv r, ct := Inv r, bk := D.nx }) (he : ∀ env st, Inv [] env st → D.nx env st) :
    ∀ (ds : List Dat) (env : GI.Env) (st : Sto), Inv ds env st → sI (sForL t f ds env st) D
  | [], env, st, h => he env st h
  | d :: r, env, st, h => by
    have q := hi d r env st h
    unfold sForL
    cases e : t d with
    | none => rw [e] at q; exact q.elim
    | some bs =>
      rw [e] at q
      have q : sI (f (setE env bs) st) { D with nx := Inv r, ct := Inv r, bk := D.nx } := q
      show sI (loopO (f (setE env bs) st) (sForL t f r)) D
      cases eo : f (setE env bs) st with
      | nx e' s' => rw [eo] at q; exact for_inv Inv hi he r e' s' q
      | ct e' s' => rw [eo] at q; exact for_inv Inv hi he r e' s' q
      | bk e' s' => rw [eo] at q; exact q
      | rt d' s' => rw [eo] at q; exact q
      | ex _ _ _ _ => rw [eo] at q; exact q
      | bad => rw [eo] at q; exact q.elim
theorem sI.mono {o : SOut} {D D' : SP} (h : sI o D) (h1 : ∀ e st, D.nx e st → D'.nx e st) (h2 : ∀ d st, D.rt d st → D'.rt d st) (h3 : ∀ e st, D.bk e st → D'.bk e st) (h4 : ∀ e st, D.ct e st → D'.ct e st) (h5 : ∀ c fs e st, D.ex c fs e st → D'.ex c fs e st) : sI o D' := by
  cases o with
  | nx e st => exact h1 e st h
  | rt d st => exact h2 d st h
  | bk e st => exact h3 e st h
  | ct e st => exact h4 e st h
  | ex c fs e st => exact h5 c fs e st h
  | bad => exact h.elim
def pI (o : Option Ev) (env : GI.Env) (st : Sto) (P : Option Int → Sto → Prop) (E : XP) : Prop := match o with
  | none => P none st
  | some f => Is (f env st) (fun d st1 => ∃ i, d = .int i ∧ P (some i) st1) E
theorem pi_none {P : Option Int → Sto → Prop} : pI none env st P E ↔ P none st := Iff.rfl
theorem pi_some {P : Option Int → Sto → Prop} : pI (some fa) env st P E ↔ Is (fa env st) (fun d st1 => ∃ i, d = .int i ∧ P (some i) st1) E := Iff.rfl
theorem ex_int {i : Int} {P : Int → Prop} : (∃ j, Dat.int i = .int j ∧ P j) ↔ P i := ⟨fun ⟨j, e, h⟩ => by cases e; exact h, fun h => ⟨i, rfl, h⟩⟩
theorem is_part {o : Option Ev} {P : Option Int → Sto → Prop} : Is (sPart o env st) P E ↔ pI o env st P E := by
  unfold sPart pI
  cases o with
  | none => exact Iff.rfl
  | some f =>
    show Is ((f env st).bind _) P E ↔ _
    rw [is_bind]
    refine Iff.of_eq (congrArg (fun z => Is _ z E) (funext fun d => funext fun st1 => ?_))
    cases d with
    | int i => exact propext ⟨fun h => ⟨i, rfl, h⟩, fun ⟨j, e, h⟩ => by cases e; exact h⟩
    | _ => exact propext ⟨fun h => h.elim, fun ⟨j, e, h⟩ => nomatch e⟩
theorem is_Sl {lo hi : Option Ev} : Is (sSl fa lo hi env st) R E ↔ Is (fa env st) (fun x st1 => pI lo env st1 (fun l st2 => pI hi env st2 (fun u st3 => oI (dSl l u x) (R · st3)) E) E) E := by
  unfold sSl
  simp only [is_bind, is_of, is_part]
variable {fv : Ev} {fi : EvL}
def lI (d : Dat) (st : Sto) (P : Nat → List (Str × Dat) → Prop) : Prop := match d with
  | .loc n => match st[n]? with
    | some (.dk kvs) => P n kvs
    | none => False
  | _ => False
theorem is_Get {k : Str} : Is (sGet fa k env st) R E ↔ Is (fa env st) (fun d st1 => lI d st1 fun _ kvs => oI (kget kvs k) (R · st1)) E := by
  unfold sGet
  rw [is_bind]
  refine Iff.of_eq (congrArg (fun z => Is _ z E) (funext fun d => funext fun st1 => ?_))
  cases d with
  | loc n =>
    unfold lI
    dsimp only
    cases st1[n]? with
    | none => rfl
    | some o => cases o; exact propext is_of
  | _ => rfl
theorem si_Put {k : Str} : sI (sPut fa k fv env st) D ↔ Is (fv env st) (fun v st1 => Is (fa env st1) (fun d st2 => lI d st2 fun n kvs => oI (kput kvs k v) fun kvs' => D.nx env (st2.set n (.dk kvs'))) (fun c fs st1 => D.ex c fs env st1)) (fun c fs st1 => D.ex c fs env st1) := by
  unfold sPut
  rw [si_go]
  refine Iff.of_eq (congrArg (fun z => Is _ z _) (funext fun v => funext fun st1 => ?_))
  rw [show sI _ D = _ from propext si_go]
  refine congrArg (fun z => Is _ z _) (funext fun d => funext fun st2 => ?_)
  cases d with
  | loc n =>
    unfold lI
    dsimp only
    cases st2[n]? with
    | none => rfl
    | some o =>
      cases o with
      | dk kvs => dsimp only; cases kput kvs k v <;> rfl
  | _ => rfl
theorem si_Rel {i : Nat} : sI (sRel i f env st) D ↔ sI (f (relE env i) st) D := Iff.rfl
def aI (s : Option (Option Slot)) (P : List Dat → Prop) : Prop := match s with
  | some (some (.ow ds)) => P ds
  | _ => False
theorem ai_ow {ds : List Dat} {P : List Dat → Prop} : aI (some (some (.ow ds))) P ↔ P ds := Iff.rfl
theorem si_App {i : Nat} : sI (sApp i fa env st) D ↔ aI env[i]? fun ds => Is (fa env st) (fun d st1 => ds.length ≤ 1000000 ∧ D.nx (env.set i (some (.ow (ds ++ [d])))) st1) (fun c fs st1 => D.ex c fs env st1) := by
  unfold sApp
  generalize env[i]? = o
  match o with
  | none => exact Iff.rfl
  | some none => exact Iff.rfl
  | some (some (.sh d)) => exact Iff.rfl
  | some (some (.ob c d)) => exact Iff.rfl
  | some (some (.ow ds)) =>
    show sI ((fa env st).go env _) D ↔ Is (fa env st) _ _
    rw [si_go]
    refine Iff.of_eq (congrArg (fun z => Is _ z _) (funext fun d => funext fun st1 => ?_))
    rw [← many_iff]
    by_cases h : many ds = true
    · rw [if_pos h]; exact propext ⟨fun q => ⟨h, q⟩, fun q => q.2⟩
    · rw [if_neg h]; exact propext ⟨fun q => q.elim, fun q => absurd q.1 h⟩
theorem si_AsgO {i : Nat} : sI (sAsgO i fl env st) D ↔ Is (fl env st) (fun ds st1 => D.nx (env.set i (some (.ow ds))) st1) (fun c fs st1 => D.ex c fs env st1) := by
  unfold sAsgO
  rw [si_go]
  exact Iff.rfl
theorem is_few {P : List Dat → Sto → Prop} : Is ((fun (env : GI.Env) (st : Sto) => ((fl) env st).bind fun ds st1 => if few ds then .ok ds st1 else .bad) env st) P E ↔ Is (fl env st) (fun ds st1 => ds.length ≤ 10000 ∧ P ds st1) E := by
  show Is ((fl env st).bind _) P E ↔ _
  rw [is_bind]
  refine Iff.of_eq (congrArg (fun z => Is _ z E) (funext fun ds => funext fun st1 => ?_))
  rw [← few_iff]
  by_cases h : few ds = true
  · rw [if_pos h]; exact propext ⟨fun q => ⟨h, q⟩, fun q => q.2⟩
  · rw [if_neg h]; exact propext ⟨fun q => q.elim, fun q => absurd q.1 h⟩
theorem is_slNil {P : List Slot → Sto → Prop} : Is (slNil env st) P E ↔ P [] st := Iff.rfl
theorem is_slSh {fs : EvS} {P : List Slot → Sto → Prop} : Is (slSh fa fs env st) P E ↔ Is (fa env st) (fun d st1 => Is (fs env st1) (fun ss st2 => P (.sh d :: ss) st2) E) E := by
  unfold slSh
  simp only [is_bind, is_ok]
theorem is_slOw {fs : EvS} {P : List Slot → Sto → Prop} : Is (slOw fl fs env st) P E ↔ Is (fl env st) (fun d st1 => Is (fs env st1) (fun ss st2 => P (.ow d :: ss) st2) E) E := by
  unfold slOw
  simp only [is_bind, is_ok]
theorem si_Par {is : List Nat} {fs : EvS} : sI (sPar is fs env st) D ↔ Is (fs env st) (fun ss st1 => ss.length = is.length ∧ D.nx (setS env is ss) st1) (fun c fs st1 => D.ex c fs env st1) := by
  unfold sPar
  rw [si_go]
  refine Iff.of_eq (congrArg (fun z => Is _ z _) (funext fun ss => funext fun st1 => ?_))
  by_cases h : ss.length = is.length
  · rw [if_pos h]; exact propext ⟨fun q => ⟨h, q⟩, fun q => q.2⟩
  · rw [if_neg h]; exact propext ⟨fun q => q.elim, fun q => absurd q.1 h⟩
theorem is_Lc {t : Tg} {vs : List Nat} : Is (sLc t fi fc fe vs env st) R E ↔ Is (fi env st) (fun ds st1 => ds.length ≤ 1000000 ∧ Is (lcL t fc fe (wipeE env vs) ds st1) (fun ys st2 => R (.lst ys) st2) E) E := by
  unfold sLc
  rw [is_bind]
  refine Iff.of_eq (congrArg (fun z => Is _ z E) (funext fun ds => funext fun st1 => ?_))
  rw [← many_iff]
  by_cases h : many ds = true
  · rw [if_pos h]; exact propext ⟨fun q => ⟨h, is_bind.mp q⟩, fun q => is_bind.mpr q.2⟩
  · rw [if_neg h]; exact propext ⟨fun q => q.elim, fun q => absurd q.1 h⟩
/-- a comprehension by an invariant: what is left, what is made -/
theorem lc_inv {t : Tg} (Inv : List Dat → List Dat → Sto → Prop) (hi : ∀ d r ys st, Inv (d :: r) ys st → oI (t d) fun bs => Is (fc (setE env bs) st) fun c st1 => bI c (Is (fe (setE env bs) st1) fun y st2 => Inv r (ys ++ [y]) st2) (Inv r ys st1)) :
    ∀ (ds ys : List Dat) (st : Sto) {RL : List Dat → Sto → Prop}, Inv ds ys st → (∀ zs st', Inv [] (ys ++ zs) st' → RL zs st') → Is (lcL t fc fe env ds st) RL E
  | [], ys, st, RL, h, k => k [] st (by rw [List.append_nil]; exact h)
  | d :: r, ys, st, RL, h, k => by
    have q := hi d r ys st h
    unfold lcL
    cases e : t d with
    | none => rw [e] at q; exact q.elim
    | some bs =>
      rw [e] at q
      have q : Is (fc (setE env bs) st) _ := q
      dsimp only
      cases ec : fc (setE env bs) st with
      | bad => rw [ec] at q; exact q.elim
      | ex _ _ _ => rw [ec] at q; exact q.elim
      | ok c st1 =>
        rw [ec] at q
        cases c with
        | bl b =>
          cases b with
          | false => exact lc_inv Inv hi r ys st1 q k
          | true =>
            have q : Is (fe (setE env bs) st1) fun y st2 => Inv r (ys ++ [y]) st2 := q
            dsimp only
            cases ee : fe (setE env bs) st1 with
            | bad => rw [ee] at q; exact q.elim
            | ex _ _ _ => rw [ee] at q; exact q.elim
            | ok y st2 =>
              rw [ee] at q
              refine is_bind.mpr (lc_inv Inv hi r (ys ++ [y]) st2 (RL := fun zs st' => RL (y :: zs) st') q fun zs st' z => ?_)
              exact k (y :: zs) st' (by rw [List.append_assoc] at z; exact z)
        | _ => exact (show False from q).elim
/-- a loop while -/
theorem while_inv (Inv : Nat → GI.Env → Sto → Prop) (hi : ∀ m env st, Inv m env st → Is (ft env st) (fun d st1 => bI d (sI (f env st1) { D with nx := fun e s => ∃ m', m' < m ∧ Inv m' e s, ct := fun e s => ∃ m', m' < m ∧ Inv m' e s, bk := D.nx }) (D.nx env st1)) (fun c fs st1 => D.ex c fs env st1)) :
    ∀ (n m : Nat) (env : GI.Env) (st : Sto), m < n → Inv m env st → sI (sWhile ft f n env st) D
  | 0, m, _, _, h, _ => absurd h (Nat.not_lt_zero m)
  | n + 1, m, env, st, h, q => by
    have q := hi m env st q
    unfold sWhile
    rw [si_go]
    refine q.mono fun d st1 q => ?_
    cases d with
    | bl b =>
      cases b with
      | false => exact q
      | true =>
        have q : sI (f env st1) _ := q
        show sI (loopO (f env st1) (sWhile ft f n)) D
        cases eo : f env st1 with
        | nx e' s' => rw [eo] at q; obtain ⟨m', hm, q⟩ := q; exact while_inv Inv hi n m' e' s' (by omega) q
        | ct e' s' => rw [eo] at q; obtain ⟨m', hm, q⟩ := q; exact while_inv Inv hi n m' e' s' (by omega) q
        | bk e' s' => rw [eo] at q; exact q
        | rt d' s' => rw [eo] at q; exact q
        | ex _ _ _ _ => rw [eo] at q; exact q
        | bad => rw [eo] at q; exact q.elim
    | _ => exact (show False from q).elim
variable {fk : EvL} {fo : Ev}
theorem is_Dict {ks : List Str} : Is (sDict ks fl env st) R E ↔ Is (fl env st) (fun ds st1 => ds.length = ks.length ∧ R (.loc st1.length) (st1 ++ [.dk (ks.zip ds)])) E := by
  unfold sDict
  rw [is_bind]
  refine Iff.of_eq (congrArg (fun z => Is _ z E) (funext fun ds => funext fun st1 => ?_))
  by_cases h : ds.length = ks.length
  · rw [if_pos h]; exact propext ⟨fun q => ⟨h, q⟩, fun q => q.2⟩
  · rw [if_neg h]; exact propext ⟨fun q => q.elim, fun q => absurd q.1 h⟩
/-- o.f of an instance -/
def tI (tab : List (Str × Nat)) (d : Dat) (P : Dat → Prop) : Prop := match d with
  | .obj c ds => oI (tab.lookup c) fun i => oI ds[i]? P
  | _ => False
theorem ti_obj {tab : List (Str × Nat)} {c : Str} {ds : List Dat} {P : Dat → Prop} : tI tab (.obj c ds) P ↔ oI (tab.lookup c) fun i => oI ds[i]? P := Iff.rfl
theorem is_Attr {tab : List (Str × Nat)} : Is (sAttr tab fe env st) R E ↔ Is (fe env st) (fun x st1 => tI tab x (R · st1)) E := by
  unfold sAttr
  rw [is_bind]
  refine Iff.of_eq (congrArg (fun z => Is _ z E) (funext fun d => funext fun st1 => ?_))
  cases d with
  | obj c ds =>
    unfold tI
    dsimp only
    cases tab.lookup c with
    | none => rfl
    | some i => exact propext is_of
  | _ => rfl
theorem is_Make {n m : Nat} {F : Fn} {gD : List Dat → List Dat → List Dat} : Is (sMake n m F gD fl fk env st) R E ↔ Is (fl env st) (fun ds st1 => Is (fk env st1) (fun es st2 => (ds.length = n ∧ es.length = m) ∧ Is (F (gD ds es) st2) R E) E) E := by
  unfold sMake
  simp only [is_bind]
  refine Iff.of_eq (congrArg (fun z => Is _ z E) (funext fun ds => funext fun st1 => congrArg (fun z => Is _ z E) (funext fun es => funext fun st2 => ?_)))
  by_cases h : ds.length = n ∧ es.length = m
  · rw [if_pos h]; exact propext ⟨fun q => ⟨h, q⟩, fun q => q.2⟩
  · rw [if_neg h]; exact propext ⟨fun q => q.elim, fun q => absurd q.1 h⟩
def mI (c : Str) (d : Dat) (P : Dat → Prop) : Prop := match d with
  | .obj c' ds => c' = c ∧ P (.obj c' ds)
  | _ => False
theorem mi_obj {c c' : Str} {ds : List Dat} {P : Dat → Prop} : mI c (.obj c' ds) P ↔ c' = c ∧ P (.obj c' ds) := Iff.rfl
theorem is_Meth {c : Str} {n : Nat} {F : Fn} : Is (sMeth c n F fo fl env st) R E ↔ Is (fo env st) (fun d st1 => mI c d fun o => Is (fl env st1) (fun es st2 => es.length + 1 = n ∧ Is (F (o :: es) st2) R E) E) E := by
  unfold sMeth
  rw [is_bind]
  refine Iff.of_eq (congrArg (fun z => Is _ z E) (funext fun d => funext fun st1 => ?_))
  cases d with
  | obj c' ds =>
    dsimp only
    unfold mI
    by_cases hc : c' = c
    · rw [if_pos hc]
      refine propext ⟨fun q => ⟨hc, (is_bind.mp q).mono fun es st2 q => ?_⟩, fun q => is_bind.mpr (q.2.mono fun es st2 q => ?_)⟩
      · by_cases h : es.length + 1 = n
        · rw [if_pos h] at q; exact ⟨h, q⟩
        · rw [if_neg h] at q; exact q.elim
      · rw [if_pos q.1]
        exact q.2
    · rw [if_neg hc]
      exact propext ⟨fun q => q.elim, fun q => (hc q.1).elim⟩
  | _ => rfl
/-- len(x): of an instance by its own __len__, else dLen -/
def nI (c : Str) (F : Fn) (d : Dat) (st : Sto) (R : Dat → Sto → Prop) (E : XP) : Prop := match d with
  | .obj c' ds => c' = c ∧ Is (F [.obj c' ds] st) (fun d st2 => ∃ m : Int, d = .int m ∧ 0 ≤ m ∧ m < 2 ^ 63 ∧ R d st2) noX
  | d => oI (dLen [d]) (R · st)
theorem ni_obj {c c' : Str} {F : Fn} {ds : List Dat} : nI c F (.obj c' ds) st R E ↔ c' = c ∧ Is (F [.obj c' ds] st) (fun d st2 => ∃ m : Int, d = .int m ∧ 0 ≤ m ∧ m < 2 ^ 63 ∧ R d st2) noX := Iff.rfl
theorem ni_tup {c : Str} {F : Fn} {ds : List Dat} : nI c F (.tup ds) st R E ↔ R (.int ds.length) st := Iff.rfl
theorem ni_lst {c : Str} {F : Fn} {ds : List Dat} : nI c F (.lst ds) st R E ↔ R (.int ds.length) st := Iff.rfl
theorem is_LenO {c : Str} {F : Fn} : Is (sLenO c 1 F fe env st) R E ↔ Is (fe env st) (fun x st1 => nI c F x st1 R E) E := by
  unfold sLenO
  rw [is_bind]
  refine Iff.of_eq (congrArg (fun z => Is _ z E) (funext fun x => funext fun st1 => ?_))
  cases x with
  | obj c' ds =>
    dsimp only
    unfold nI
    by_cases hc : c' = c
    · rw [if_pos ⟨hc, rfl⟩]
      refine propext ⟨fun q => ⟨hc, ?_⟩, fun q => ?_⟩
      · split at q
        · rename_i m st2 e
          rw [e]
          by_cases h : 0 ≤ m ∧ m < 2 ^ 63
          · rw [if_pos h] at q; exact ⟨m, rfl, h.1, h.2, q⟩
          · rw [if_neg h] at q; exact q.elim
        · exact q.elim
      · obtain ⟨d, st2, e, m, rfl, h0, h1, q⟩ := q.2.ex
        rw [e]
        dsimp only
        rw [if_pos ⟨h0, h1⟩]
        exact q
    · rw [if_neg fun z => hc z.1]
      exact propext ⟨fun q => q.elim, fun q => (hc q.1).elim⟩
  | _ => exact propext is_of
def eI (c : Str) (cs : List Str) (F : Fn) (neg : Bool) (gd : Dat → Dat → Option Dat) (x y : Dat) (st : Sto) (R : Dat → Sto → Prop) : Prop := match x with
  | .obj c' ds => (c' = c ∧ nfD cs y = true) ∧ Is (F [.obj c' ds, y] st) (fun d st3 => ∃ b, d = .bl b ∧ R (.bl (b != neg)) st3) noX
  | x => oI (gd x y) (R · st)
theorem ei_obj {c c' : Str} {cs : List Str} {F : Fn} {neg : Bool} {gd : Dat → Dat → Option Dat} {ds : List Dat} {y : Dat} : eI c cs F neg gd (.obj c' ds) y st R ↔ (c' = c ∧ nfD cs y = true) ∧ Is (F [.obj c' ds, y] st) (fun d st3 => ∃ b, d = .bl b ∧ R (.bl (b != neg)) st3) noX := Iff.rfl
theorem ei_tup {c : Str} {cs : List Str} {F : Fn} {neg : Bool} {gd : Dat → Dat → Option Dat} {ds : List Dat} {y : Dat} : eI c cs F neg gd (.tup ds) y st R ↔ oI (gd (.tup ds) y) (R · st) := Iff.rfl
theorem ei_lst {c : Str} {cs : List Str} {F : Fn} {neg : Bool} {gd : Dat → Dat → Option Dat} {ds : List Dat} {y : Dat} : eI c cs F neg gd (.lst ds) y st R ↔ oI (gd (.lst ds) y) (R · st) := Iff.rfl
theorem ei_int {c : Str} {cs : List Str} {F : Fn} {neg : Bool} {gd : Dat → Dat → Option Dat} {i : Int} {y : Dat} : eI c cs F neg gd (.int i) y st R ↔ oI (gd (.int i) y) (R · st) := Iff.rfl
theorem is_EqO {c : Str} {cs : List Str} {F : Fn} {neg : Bool} {gd : Dat → Dat → Option Dat} : Is (sEqO c cs F neg gd fa fb env st) R E ↔ Is (fa env st) (fun x st1 => Is (fb env st1) (fun y st2 => eI c cs F neg gd x y st2 R) E) E := by
  unfold sEqO
  rw [is_bind]
  refine Iff.of_eq (congrArg (fun z => Is _ z E) (funext fun x => funext fun st1 => ?_))
  rw [show Is _ R E = _ from propext is_bind]
  refine congrArg (fun z => Is _ z E) (funext fun y => funext fun st2 => ?_)
  cases x with
  | obj c' ds =>
    dsimp only
    unfold eI
    by_cases hc : c' = c ∧ nfD cs y = true
    · rw [if_pos hc]
      refine propext ⟨fun q => ⟨hc, ?_⟩, fun q => ?_⟩
      · split at q
        · rename_i b st3 e
          rw [e]
          exact ⟨b, rfl, q⟩
        · exact q.elim
      · obtain ⟨d, st3, e, b, rfl, q⟩ := q.2.ex
        rw [e]
        exact q
    · rw [if_neg hc]
      exact propext ⟨fun q => q.elim, fun q => (hc q.1).elim⟩
  | _ => exact propext is_of
def xI (c : Str) (F : Fn) (x y : Dat) (st : Sto) (R : Dat → Sto → Prop) (E : XP) : Prop := match x with
  | .obj c' ds => c' = c ∧ Is (F [.obj c' ds, y] st) R E
  | x => oI (dIx x y) (R · st)
theorem xi_obj {c c' : Str} {F : Fn} {ds : List Dat} {y : Dat} : xI c F (.obj c' ds) y st R E ↔ c' = c ∧ Is (F [.obj c' ds, y] st) R E := Iff.rfl
theorem xi_tup {c : Str} {F : Fn} {ds : List Dat} {y : Dat} : xI c F (.tup ds) y st R E ↔ oI (dIx (.tup ds) y) (R · st) := Iff.rfl
theorem xi_lst {c : Str} {F : Fn} {ds : List Dat} {y : Dat} : xI c F (.lst ds) y st R E ↔ oI (dIx (.lst ds) y) (R · st) := Iff.rfl
theorem is_IxO {c : Str} {F : Fn} : Is (sIxO c F fa fb env st) R E ↔ Is (fa env st) (fun x st1 => Is (fb env st1) (fun y st2 => xI c F x y st2 R E) E) E := by
  unfold sIxO
  rw [is_bind]
  refine Iff.of_eq (congrArg (fun z => Is _ z E) (funext fun x => funext fun st1 => ?_))
  rw [show Is _ R E = _ from propext is_bind]
  refine congrArg (fun z => Is _ z E) (funext fun y => funext fun st2 => ?_)
  cases x with
  | obj c' ds =>
    dsimp only
    unfold xI
    by_cases hc : c' = c
    · rw [if_pos hc]; exact propext ⟨fun q => ⟨hc, q⟩, fun q => q.2⟩
    · rw [if_neg hc]; exact propext ⟨fun q => q.elim, fun q => (hc q.1).elim⟩
  | _ => exact propext is_of
def uI (c : Str) (j : Nat) (s : Option (Option Slot)) (P : List (Option Dat) → Prop) : Prop := match s with
  | some (some (.ob c' es)) => (c' = c ∧ j < es.length) ∧ P es
  | _ => False
theorem ui_ob {c c' : Str} {j : Nat} {es : List (Option Dat)} {P : List (Option Dat) → Prop} : uI c j (some (some (.ob c' es))) P ↔ (c' = c ∧ j < es.length) ∧ P es := Iff.rfl
theorem si_SetA {c : Str} {i j : Nat} : sI (sSetA c i j fa env st) D ↔ uI c j env[i]? fun es => Is (fa env st) (fun d st1 => D.nx (env.set i (some (.ob c (es.set j (some d))))) st1) (fun c fs st1 => D.ex c fs env st1) := by
  unfold sSetA
  generalize env[i]? = o
  match o with
  | none => exact Iff.rfl
  | some none => exact Iff.rfl
  | some (some (.sh d)) => exact Iff.rfl
  | some (some (.ow d)) => exact Iff.rfl
  | some (some (.ob c' es)) =>
    show sI (if c' = c ∧ j < es.length then _ else _) D ↔ (c' = c ∧ j < es.length) ∧ _
    by_cases h : c' = c ∧ j < es.length
    · rw [if_pos h, si_go]; exact ⟨fun q => ⟨h, q⟩, fun q => q.2⟩
    · rw [if_neg h]; exact ⟨fun q => q.elim, fun q => absurd q.1 h⟩
theorem is_fnI {c : Str} {m n : Nat} {ds : List Dat} : Is (fnI c m n f ds st) R E ↔ sI (f (envI c m n ds) st) { nx := fun e st1 => Is (endI c e st1) R E, ex := fun c fs _ st1 => E c fs st1 } := by
  unfold fnI
  cases f (envI c m n ds) st <;> exact Iff.rfl
theorem is_Lc2 {t t1 : Tg} {fi1 : EvL} {fc1 : Ev} {vs vs1 : List Nat} : Is (sLc2 t fi fc t1 fi1 fc1 fe vs vs1 env st) R E ↔ Is (fi env st) (fun ds st1 => Is (lc2L t fc fi1 t1 fc1 fe vs1 (wipeE env vs) ds st1) (fun ys st2 => ys.length ≤ 1000000 ∧ R (.lst ys) st2) noX) E := by
  unfold sLc2
  rw [is_bind]
  refine Iff.of_eq (congrArg (fun z => Is _ z E) (funext fun ds => funext fun st1 => ?_))
  cases lc2L t fc fi1 t1 fc1 fe vs1 (wipeE env vs) ds st1 with
  | bad => rfl
  | ex _ _ _ => rfl
  | ok ys st2 =>
    dsimp only
    by_cases h : many ys = true
    · rw [if_pos h]; exact propext ⟨fun q => ⟨many_iff.mp h, q⟩, fun q => q.2⟩
    · rw [if_neg h]; exact propext ⟨fun q => q.elim, fun q => absurd (many_iff.mpr q.1) h⟩
end
end GP
set_option Elab.async false
set_option linter.all false
set_option maxRecDepth 100000
set_option maxHeartbeats 2000000
namespace GP
open PySem GI
theorem ev_1_1 {a0 : Dat} : envOf 1 [a0] = [some (.sh a0)] := rfl
theorem ev_1_2 {a0 : Dat} : envOf 2 [a0] = [some (.sh a0), none] := rfl
theorem ev_2_2 {a0 a1 : Dat} : envOf 2 [a0, a1] = [some (.sh a0), some (.sh a1)] := rfl
theorem ev_1_3 {a0 : Dat} : envOf 3 [a0] = [some (.sh a0), none, none] := rfl
theorem ev_2_3 {a0 a1 : Dat} : envOf 3 [a0, a1] = [some (.sh a0), some (.sh a1), none] := rfl
theorem ev_3_3 {a0 a1 a2 : Dat} : envOf 3 [a0, a1, a2] = [some (.sh a0), some (.sh a1), some (.sh a2)] := rfl
theorem ev_1_4 {a0 : Dat} : envOf 4 [a0] = [some (.sh a0), none, none, none] := rfl
theorem ev_2_4 {a0 a1 : Dat} : envOf 4 [a0, a1] = [some (.sh a0), some (.sh a1), none, none] := rfl
theorem ev_3_4 {a0 a1 a2 : Dat} : envOf 4 [a0, a1, a2] = [some (.sh a0), some (.sh a1), some (.sh a2), none] := rfl
theorem ev_4_4 {a0 a1 a2 a3 : Dat} : envOf 4 [a0, a1, a2, a3] = [some (.sh a0), some (.sh a1), some (.sh a2), some (.sh a3)] := rfl
theorem ev_1_5 {a0 : Dat} : envOf 5 [a0] = [some (.sh a0), none, none, none, none] := rfl
theorem ev_2_5 {a0 a1 : Dat} : envOf 5 [a0, a1] = [some (.sh a0), some (.sh a1), none, none, none] := rfl
theorem ev_3_5 {a0 a1 a2 : Dat} : envOf 5 [a0, a1, a2] = [some (.sh a0), some (.sh a1), some (.sh a2), none, none] := rfl
theorem ev_4_5 {a0 a1 a2 a3 : Dat} : envOf 5 [a0, a1, a2, a3] = [some (.sh a0), some (.sh a1), some (.sh a2), some (.sh a3), none] := rfl
theorem ev_5_5 {a0 a1 a2 a3 a4 : Dat} : envOf 5 [a0, a1, a2, a3, a4] = [some (.sh a0), some (.sh a1), some (.sh a2), some (.sh a3), some (.sh a4)] := rfl
theorem ev_1_6 {a0 : Dat} : envOf 6 [a0] = [some (.sh a0), none, none, none, none, none] := rfl
theorem ev_2_6 {a0 a1 : Dat} : envOf 6 [a0, a1] = [some (.sh a0), some (.sh a1), none, none, none, none] := rfl
theorem ev_3_6 {a0 a1 a2 : Dat} : envOf 6 [a0, a1, a2] = [some (.sh a0), some (.sh a1), some (.sh a2), none, none, none] := rfl
theorem ev_4_6 {a0 a1 a2 a3 : Dat} : envOf 6 [a0, a1, a2, a3] = [some (.sh a0), some (.sh a1), some (.sh a2), some (.sh a3), none, none] := rfl
theorem ev_5_6 {a0 a1 a2 a3 a4 : Dat} : envOf 6 [a0, a1, a2, a3, a4] = [some (.sh a0), some (.sh a1), some (.sh a2), some (.sh a3), some (.sh a4), none] := rfl
theorem ev_6_6 {a0 a1 a2 a3 a4 a5 : Dat} : envOf 6 [a0, a1, a2, a3, a4, a5] = [some (.sh a0), some (.sh a1), some (.sh a2), some (.sh a3), some (.sh a4), some (.sh a5)] := rfl
theorem ev_1_7 {a0 : Dat} : envOf 7 [a0] = [some (.sh a0), none, none, none, none, none, none] := rfl
theorem ev_2_7 {a0 a1 : Dat} : envOf 7 [a0, a1] = [some (.sh a0), some (.sh a1), none, none, none, none, none] := rfl
theorem ev_3_7 {a0 a1 a2 : Dat} : envOf 7 [a0, a1, a2] = [some (.sh a0), some (.sh a1), some (.sh a2), none, none, none, none] := rfl
theorem ev_4_7 {a0 a1 a2 a3 : Dat} : envOf 7 [a0, a1, a2, a3] = [some (.sh a0), some (.sh a1), some (.sh a2), some (.sh a3), none, none, none] := rfl
theorem ev_5_7 {a0 a1 a2 a3 a4 : Dat} : envOf 7 [a0, a1, a2, a3, a4] = [some (.sh a0), some (.sh a1), some (.sh a2), some (.sh a3), some (.sh a4), none, none] := rfl
theorem ev_6_7 {a0 a1 a2 a3 a4 a5 : Dat} : envOf 7 [a0, a1, a2, a3, a4, a5] = [some (.sh a0), some (.sh a1), some (.sh a2), some (.sh a3), some (.sh a4), some (.sh a5), none] := rfl
theorem ev_7_7 {a0 a1 a2 a3 a4 a5 a6 : Dat} : envOf 7 [a0, a1, a2, a3, a4, a5, a6] = [some (.sh a0), some (.sh a1), some (.sh a2), some (.sh a3), some (.sh a4), some (.sh a5), some (.sh a6)] := rfl
theorem ev_1_8 {a0 : Dat} : envOf 8 [a0] = [some (.sh a0), none, none, none, none, none, none, none] := rfl
theorem ev_2_8 {a0 a1 : Dat} : envOf 8 [a0, a1] = [some (.sh a0), some (.sh a1), none, none, none, none, none, none] := rfl
theorem ev_3_8 {a0 a1 a2 : Dat} : envOf 8 [a0, a1, a2] = [some (.sh a0), some (.sh a1), some (.sh a2), none, none, none, none, none] := rfl
theorem ev_4_8 {a0 a1 a2 a3 : Dat} : envOf 8 [a0, a1, a2, a3] = [some (.sh a0), some (.sh a1), some (.sh a2), some (.sh a3), none, none, none, none] := rfl
theorem ev_5_8 {a0 a1 a2 a3 a4 : Dat} : envOf 8 [a0, a1, a2, a3, a4] = [some (.sh a0), some (.sh a1), some (.sh a2), some (.sh a3), some (.sh a4), none, none, none] := rfl
theorem ev_6_8 {a0 a1 a2 a3 a4 a5 : Dat} : envOf 8 [a0, a1, a2, a3, a4, a5] = [some (.sh a0), some (.sh a1), some (.sh a2), some (.sh a3), some (.sh a4), some (.sh a5), none, none] := rfl
theorem ev_7_8 {a0 a1 a2 a3 a4 a5 a6 : Dat} : envOf 8 [a0, a1, a2, a3, a4, a5, a6] = [some (.sh a0), some (.sh a1), some (.sh a2), some (.sh a3), some (.sh a4), some (.sh a5), some (.sh a6), none] := rfl
theorem ev_8_8 {a0 a1 a2 a3 a4 a5 a6 a7 : Dat} : envOf 8 [a0, a1, a2, a3, a4, a5, a6, a7] = [some (.sh a0), some (.sh a1), some (.sh a2), some (.sh a3), some (.sh a4), some (.sh a5), some (.sh a6), some (.sh a7)] := rfl
theorem ev_1_9 {a0 : Dat} : envOf 9 [a0] = [some (.sh a0), none, none, none, none, none, none, none, none] := rfl
theorem ev_2_9 {a0 a1 : Dat} : envOf 9 [a0, a1] = [some (.sh a0), some (.sh a1), none, none, none, none, none, none, none] := rfl
theorem ev_3_9 {a0 a1 a2 : Dat} : envOf 9 [a0, a1, a2] = [some (.sh a0), some (.sh a1), some (.sh a2), none, none, none, none, none, none] := rfl
theorem ev_4_9 {a0 a1 a2 a3 : Dat} : envOf 9 [a0, a1, a2, a3] = [some (.sh a0), some (.sh a1), some (.sh a2), some (.sh a3), none, none, none, none, none] := rfl
theorem ev_5_9 {a0 a1 a2 a3 a4 : Dat} : envOf 9 [a0, a1, a2, a3, a4] = [some (.sh a0), some (.sh a1), some (.sh a2), some (.sh a3), some (.sh a4), none, none, none, none] := rfl
theorem ev_6_9 {a0 a1 a2 a3 a4 a5 : Dat} : envOf 9 [a0, a1, a2, a3, a4, a5] = [some (.sh a0), some (.sh a1), some (.sh a2), some (.sh a3), some (.sh a4), some (.sh a5), none, none, none] := rfl
theorem ev_7_9 {a0 a1 a2 a3 a4 a5 a6 : Dat} : envOf 9 [a0, a1, a2, a3, a4, a5, a6] = [some (.sh a0), some (.sh a1), some (.sh a2), some (.sh a3), some (.sh a4), some (.sh a5), some (.sh a6), none, none] := rfl
theorem ev_8_9 {a0 a1 a2 a3 a4 a5 a6 a7 : Dat} : envOf 9 [a0, a1, a2, a3, a4, a5, a6, a7] = [some (.sh a0), some (.sh a1), some (.sh a2), some (.sh a3), some (.sh a4), some (.sh a5), some (.sh a6), some (.sh a7), none] := rfl
theorem ev_1_10 {a0 : Dat} : envOf 10 [a0] = [some (.sh a0), none, none, none, none, none, none, none, none, none] := rfl
theorem ev_2_10 {a0 a1 : Dat} : envOf 10 [a0, a1] = [some (.sh a0), some (.sh a1), none, none, none, none, none, none, none, none] := rfl
theorem ev_3_10 {a0 a1 a2 : Dat} : envOf 10 [a0, a1, a2] = [some (.sh a0), some (.sh a1), some (.sh a2), none, none, none, none, none, none, none] := rfl
theorem ev_4_10 {a0 a1 a2 a3 : Dat} : envOf 10 [a0, a1, a2, a3] = [some (.sh a0), some (.sh a1), some (.sh a2), some (.sh a3), none, none, none, none, none, none] := rfl
theorem ev_5_10 {a0 a1 a2 a3 a4 : Dat} : envOf 10 [a0, a1, a2, a3, a4] = [some (.sh a0), some (.sh a1), some (.sh a2), some (.sh a3), some (.sh a4), none, none, none, none, none] := rfl
theorem ev_6_10 {a0 a1 a2 a3 a4 a5 : Dat} : envOf 10 [a0, a1, a2, a3, a4, a5] = [some (.sh a0), some (.sh a1), some (.sh a2), some (.sh a3), some (.sh a4), some (.sh a5), none, none, none, none] := rfl
theorem ev_7_10 {a0 a1 a2 a3 a4 a5 a6 : Dat} : envOf 10 [a0, a1, a2, a3, a4, a5, a6] = [some (.sh a0), some (.sh a1), some (.sh a2), some (.sh a3), some (.sh a4), some (.sh a5), some (.sh a6), none, none, none] := rfl
theorem ev_8_10 {a0 a1 a2 a3 a4 a5 a6 a7 : Dat} : envOf 10 [a0, a1, a2, a3, a4, a5, a6, a7] = [some (.sh a0), some (.sh a1), some (.sh a2), some (.sh a3), some (.sh a4), some (.sh a5), some (.sh a6), some (.sh a7), none, none] := rfl
theorem ev_1_11 {a0 : Dat} : envOf 11 [a0] = [some (.sh a0), none, none, none, none, none, none, none, none, none, none] := rfl
theorem ev_2_11 {a0 a1 : Dat} : envOf 11 [a0, a1] = [some (.sh a0), some (.sh a1), none, none, none, none, none, none, none, none, none] := rfl
theorem ev_3_11 {a0 a1 a2 : Dat} : envOf 11 [a0, a1, a2] = [some (.sh a0), some (.sh a1), some (.sh a2), none, none, none, none, none, none, none, none] := rfl
theorem ev_4_11 {a0 a1 a2 a3 : Dat} : envOf 11 [a0, a1, a2, a3] = [some (.sh a0), some (.sh a1), some (.sh a2), some (.sh a3), none, none, none, none, none, none, none] := rfl
theorem ev_5_11 {a0 a1 a2 a3 a4 : Dat} : envOf 11 [a0, a1, a2, a3, a4] = [some (.sh a0), some (.sh a1), some (.sh a2), some (.sh a3), some (.sh a4), none, none, none, none, none, none] := rfl
theorem ev_6_11 {a0 a1 a2 a3 a4 a5 : Dat} : envOf 11 [a0, a1, a2, a3, a4, a5] = [some (.sh a0), some (.sh a1), some (.sh a2), some (.sh a3), some (.sh a4), some (.sh a5), none, none, none, none, none] := rfl
theorem ev_7_11 {a0 a1 a2 a3 a4 a5 a6 : Dat} : envOf 11 [a0, a1, a2, a3, a4, a5, a6] = [some (.sh a0), some (.sh a1), some (.sh a2), some (.sh a3), some (.sh a4), some (.sh a5), some (.sh a6), none, none, none, none] := rfl
theorem ev_8_11 {a0 a1 a2 a3 a4 a5 a6 a7 : Dat} : envOf 11 [a0, a1, a2, a3, a4, a5, a6, a7] = [some (.sh a0), some (.sh a1), some (.sh a2), some (.sh a3), some (.sh a4), some (.sh a5), some (.sh a6), some (.sh a7), none, none, none] := rfl
theorem ev_1_12 {a0 : Dat} : envOf 12 [a0] = [some (.sh a0), none, none, none, none, none, none, none, none, none, none, none] := rfl
theorem ev_2_12 {a0 a1 : Dat} : envOf 12 [a0, a1] = [some (.sh a0), some (.sh a1), none, none, none, none, none, none, none, none, none, none] := rfl
theorem ev_3_12 {a0 a1 a2 : Dat} : envOf 12 [a0, a1, a2] = [some (.sh a0), some (.sh a1), some (.sh a2), none, none, none, none, none, none, none, none, none] := rfl
theorem ev_4_12 {a0 a1 a2 a3 : Dat} : envOf 12 [a0, a1, a2, a3] = [some (.sh a0), some (.sh a1), some (.sh a2), some (.sh a3), none, none, none, none, none, none, none, none] := rfl
theorem ev_5_12 {a0 a1 a2 a3 a4 : Dat} : envOf 12 [a0, a1, a2, a3, a4] = [some (.sh a0), some (.sh a1), some (.sh a2), some (.sh a3), some (.sh a4), none, none, none, none, none, none, none] := rfl
theorem ev_6_12 {a0 a1 a2 a3 a4 a5 : Dat} : envOf 12 [a0, a1, a2, a3, a4, a5] = [some (.sh a0), some (.sh a1), some (.sh a2), some (.sh a3), some (.sh a4), some (.sh a5), none, none, none, none, none, none] := rfl
theorem ev_7_12 {a0 a1 a2 a3 a4 a5 a6 : Dat} : envOf 12 [a0, a1, a2, a3, a4, a5, a6] = [some (.sh a0), some (.sh a1), some (.sh a2), some (.sh a3), some (.sh a4), some (.sh a5), some (.sh a6), none, none, none, none, none] := rfl
theorem ev_8_12 {a0 a1 a2 a3 a4 a5 a6 a7 : Dat} : envOf 12 [a0, a1, a2, a3, a4, a5, a6, a7] = [some (.sh a0), some (.sh a1), some (.sh a2), some (.sh a3), some (.sh a4), some (.sh a5), some (.sh a6), some (.sh a7), none, none, none, none] := rfl
theorem ev_1_13 {a0 : Dat} : envOf 13 [a0] = [some (.sh a0), none, none, none, none, none, none, none, none, none, none, none, none] := rfl
theorem ev_2_13 {a0 a1 : Dat} : envOf 13 [a0, a1] = [some (.sh a0), some (.sh a1), none, none, none, none, none, none, none, none, none, none, none] := rfl
theorem ev_3_13 {a0 a1 a2 : Dat} : envOf 13 [a0, a1, a2] = [some (.sh a0), some (.sh a1), some (.sh a2), none, none, none, none, none, none, none, none, none, none] := rfl
theorem ev_4_13 {a0 a1 a2 a3 : Dat} : envOf 13 [a0, a1, a2, a3] = [some (.sh a0), some (.sh a1), some (.sh a2), some (.sh a3), none, none, none, none, none, none, none, none, none] := rfl
theorem ev_5_13 {a0 a1 a2 a3 a4 : Dat} : envOf 13 [a0, a1, a2, a3, a4] = [some (.sh a0), some (.sh a1), some (.sh a2), some (.sh a3), some (.sh a4), none, none, none, none, none, none, none, none] := rfl
theorem ev_6_13 {a0 a1 a2 a3 a4 a5 : Dat} : envOf 13 [a0, a1, a2, a3, a4, a5] = [some (.sh a0), some (.sh a1), some (.sh a2), some (.sh a3), some (.sh a4), some (.sh a5), none, none, none, none, none, none, none] := rfl
theorem ev_7_13 {a0 a1 a2 a3 a4 a5 a6 : Dat} : envOf 13 [a0, a1, a2, a3, a4, a5, a6] = [some (.sh a0), some (.sh a1), some (.sh a2), some (.sh a3), some (.sh a4), some (.sh a5), some (.sh a6), none, none, none, none, none, none] := rfl
theorem ev_8_13 {a0 a1 a2 a3 a4 a5 a6 a7 : Dat} : envOf 13 [a0, a1, a2, a3, a4, a5, a6, a7] = [some (.sh a0), some (.sh a1), some (.sh a2), some (.sh a3), some (.sh a4), some (.sh a5), some (.sh a6), some (.sh a7), none, none, none, none, none] := rfl
theorem ev_1_14 {a0 : Dat} : envOf 14 [a0] = [some (.sh a0), none, none, none, none, none, none, none, none, none, none, none, none, none] := rfl
theorem ev_2_14 {a0 a1 : Dat} : envOf 14 [a0, a1] = [some (.sh a0), some (.sh a1), none, none, none, none, none, none, none, none, none, none, none, none] := rfl
theorem ev_3_14 {a0 a1 a2 : Dat} : envOf 14 [a0, a1, a2] = [some (.sh a0), some (.sh a1), some (.sh a2), none, none, none, none, none, none, none, none, none, none, none] := rfl
theorem ev_4_14 {a0 a1 a2 a3 : Dat} : envOf 14 [a0, a1, a2, a3] = [some (.sh a0), some (.sh a1), some (.sh a2), some (.sh a3), none, none, none, none, none, none, none, none, none, none] := rfl
theorem ev_5_14 {a0 a1 a2 a3 a4 : Dat} : envOf 14 [a0, a1, a2, a3, a4] = [some (.sh a0), some (.sh a1), some (.sh a2), some (.sh a3), some (.sh a4), none, none, none, none, none, none, none, none, none] := rfl
theorem ev_6_14 {a0 a1 a2 a3 a4 a5 : Dat} : envOf 14 [a0, a1, a2, a3, a4, a5] = [some (.sh a0), some (.sh a1), some (.sh a2), some (.sh a3), some (.sh a4), some (.sh a5), none, none, none, none, none, none, none, none] := rfl
theorem ev_7_14 {a0 a1 a2 a3 a4 a5 a6 : Dat} : envOf 14 [a0, a1, a2, a3, a4, a5, a6] = [some (.sh a0), some (.sh a1), some (.sh a2), some (.sh a3), some (.sh a4), some (.sh a5), some (.sh a6), none, none, none, none, none, none, none] := rfl
theorem ev_8_14 {a0 a1 a2 a3 a4 a5 a6 a7 : Dat} : envOf 14 [a0, a1, a2, a3, a4, a5, a6, a7] = [some (.sh a0), some (.sh a1), some (.sh a2), some (.sh a3), some (.sh a4), some (.sh a5), some (.sh a6), some (.sh a7), none, none, none, none, none, none] := rfl
theorem ev_1_15 {a0 : Dat} : envOf 15 [a0] = [some (.sh a0), none, none, none, none, none, none, none, none, none, none, none, none, none, none] := rfl
theorem ev_2_15 {a0 a1 : Dat} : envOf 15 [a0, a1] = [some (.sh a0), some (.sh a1), none, none, none, none, none, none, none, none, none, none, none, none, none] := rfl
theorem ev_3_15 {a0 a1 a2 : Dat} : envOf 15 [a0, a1, a2] = [some (.sh a0), some (.sh a1), some (.sh a2), none, none, none, none, none, none, none, none, none, none, none, none] := rfl
theorem ev_4_15 {a0 a1 a2 a3 : Dat} : envOf 15 [a0, a1, a2, a3] = [some (.sh a0), some (.sh a1), some (.sh a2), some (.sh a3), none, none, none, none, none, none, none, none, none, none, none] := rfl
theorem ev_5_15 {a0 a1 a2 a3 a4 : Dat} : envOf 15 [a0, a1, a2, a3, a4] = [some (.sh a0), some (.sh a1), some (.sh a2), some (.sh a3), some (.sh a4), none, none, none, none, none, none, none, none, none, none] := rfl
theorem ev_6_15 {a0 a1 a2 a3 a4 a5 : Dat} : envOf 15 [a0, a1, a2, a3, a4, a5] = [some (.sh a0), some (.sh a1), some (.sh a2), some (.sh a3), some (.sh a4), some (.sh a5), none, none, none, none, none, none, none, none, none] := rfl
theorem ev_7_15 {a0 a1 a2 a3 a4 a5 a6 : Dat} : envOf 15 [a0, a1, a2, a3, a4, a5, a6] = [some (.sh a0), some (.sh a1), some (.sh a2), some (.sh a3), some (.sh a4), some (.sh a5), some (.sh a6), none, none, none, none, none, none, none, none] := rfl
theorem ev_8_15 {a0 a1 a2 a3 a4 a5 a6 a7 : Dat} : envOf 15 [a0, a1, a2, a3, a4, a5, a6, a7] = [some (.sh a0), some (.sh a1), some (.sh a2), some (.sh a3), some (.sh a4), some (.sh a5), some (.sh a6), some (.sh a7), none, none, none, none, none, none, none] := rfl
theorem ev_1_16 {a0 : Dat} : envOf 16 [a0] = [some (.sh a0), none, none, none, none, none, none, none, none, none, none, none, none, none, none, none] := rfl
theorem ev_2_16 {a0 a1 : Dat} : envOf 16 [a0, a1] = [some (.sh a0), some (.sh a1), none, none, none, none, none, none, none, none, none, none, none, none, none, none] := rfl
theorem ev_3_16 {a0 a1 a2 : Dat} : envOf 16 [a0, a1, a2] = [some (.sh a0), some (.sh a1), some (.sh a2), none, none, none, none, none, none, none, none, none, none, none, none, none] := rfl
theorem ev_4_16 {a0 a1 a2 a3 : Dat} : envOf 16 [a0, a1, a2, a3] = [some (.sh a0), some (.sh a1), some (.sh a2), some (.sh a3), none, none, none, none, none, none, none, none, none, none, none, none] := rfl
theorem ev_5_16 {a0 a1 a2 a3 a4 : Dat} : envOf 16 [a0, a1, a2, a3, a4] = [some (.sh a0), some (.sh a1), some (.sh a2), some (.sh a3), some (.sh a4), none, none, none, none, none, none, none, none, none, none, none] := rfl
theorem ev_6_16 {a0 a1 a2 a3 a4 a5 : Dat} : envOf 16 [a0, a1, a2, a3, a4, a5] = [some (.sh a0), some (.sh a1), some (.sh a2), some (.sh a3), some (.sh a4), some (.sh a5), none, none, none, none, none, none, none, none, none, none] := rfl
theorem ev_7_16 {a0 a1 a2 a3 a4 a5 a6 : Dat} : envOf 16 [a0, a1, a2, a3, a4, a5, a6] = [some (.sh a0), some (.sh a1), some (.sh a2), some (.sh a3), some (.sh a4), some (.sh a5), some (.sh a6), none, none, none, none, none, none, none, none, none] := rfl
theorem ev_8_16 {a0 a1 a2 a3 a4 a5 a6 a7 : Dat} : envOf 16 [a0, a1, a2, a3, a4, a5, a6, a7] = [some (.sh a0), some (.sh a1), some (.sh a2), some (.sh a3), some (.sh a4), some (.sh a5), some (.sh a6), some (.sh a7), none, none, none, none, none, none, none, none] := rfl
theorem ev_1_17 {a0 : Dat} : envOf 17 [a0] = [some (.sh a0), none, none, none, none, none, none, none, none, none, none, none, none, none, none, none, none] := rfl
theorem ev_2_17 {a0 a1 : Dat} : envOf 17 [a0, a1] = [some (.sh a0), some (.sh a1), none, none, none, none, none, none, none, none, none, none, none, none, none, none, none] := rfl
theorem ev_3_17 {a0 a1 a2 : Dat} : envOf 17 [a0, a1, a2] = [some (.sh a0), some (.sh a1), some (.sh a2), none, none, none, none, none, none, none, none, none, none, none, none, none, none] := rfl
theorem ev_4_17 {a0 a1 a2 a3 : Dat} : envOf 17 [a0, a1, a2, a3] = [some (.sh a0), some (.sh a1), some (.sh a2), some (.sh a3), none, none, none, none, none, none, none, none, none, none, none, none, none] := rfl
theorem ev_5_17 {a0 a1 a2 a3 a4 : Dat} : envOf 17 [a0, a1, a2, a3, a4] = [some (.sh a0), some (.sh a1), some (.sh a2), some (.sh a3), some (.sh a4), none, none, none, none, none, none, none, none, none, none, none, none] := rfl
theorem ev_6_17 {a0 a1 a2 a3 a4 a5 : Dat} : envOf 17 [a0, a1, a2, a3, a4, a5] = [some (.sh a0), some (.sh a1), some (.sh a2), some (.sh a3), some (.sh a4), some (.sh a5), none, none, none, none, none, none, none, none, none, none, none] := rfl
theorem ev_7_17 {a0 a1 a2 a3 a4 a5 a6 : Dat} : envOf 17 [a0, a1, a2, a3, a4, a5, a6] = [some (.sh a0), some (.sh a1), some (.sh a2), some (.sh a3), some (.sh a4), some (.sh a5), some (.sh a6), none, none, none, none, none, none, none, none, none, none] := rfl
theorem ev_8_17 {a0 a1 a2 a3 a4 a5 a6 a7 : Dat} : envOf 17 [a0, a1, a2, a3, a4, a5, a6, a7] = [some (.sh a0), some (.sh a1), some (.sh a2), some (.sh a3), some (.sh a4), some (.sh a5), some (.sh a6), some (.sh a7), none, none, none, none, none, none, none, none, none] := rfl
theorem ev_1_18 {a0 : Dat} : envOf 18 [a0] = [some (.sh a0), none, none, none, none, none, none, none, none, none, none, none, none, none, none, none, none, none] := rfl
theorem ev_2_18 {a0 a1 : Dat} : envOf 18 [a0, a1] = [some (.sh a0), some (.sh a1), none, none, none, none, none, none, none, none, none, none, none, none, none, none, none, none] := rfl
theorem ev_3_18 {a0 a1 a2 : Dat} : envOf 18 [a0, a1, a2] = [some (.sh a0), some (.sh a1), some (.sh a2), none, none, none, none, none, none, none, none, none, none, none, none, none, none, none] := rfl
theorem ev_4_18 {a0 a1 a2 a3 : Dat} : envOf 18 [a0, a1, a2, a3] = [some (.sh a0), some (.sh a1), some (.sh a2), some (.sh a3), none, none, none, none, none, none, none, none, none, none, none, none, none, none] := rfl
theorem ev_5_18 {a0 a1 a2 a3 a4 : Dat} : envOf 18 [a0, a1, a2, a3, a4] = [some (.sh a0), some (.sh a1), some (.sh a2), some (.sh a3), some (.sh a4), none, none, none, none, none, none, none, none, none, none, none, none, none] := rfl
theorem ev_6_18 {a0 a1 a2 a3 a4 a5 : Dat} : envOf 18 [a0, a1, a2, a3, a4, a5] = [some (.sh a0), some (.sh a1), some (.sh a2), some (.sh a3), some (.sh a4), some (.sh a5), none, none, none, none, none, none, none, none, none, none, none, none] := rfl
theorem ev_7_18 {a0 a1 a2 a3 a4 a5 a6 : Dat} : envOf 18 [a0, a1, a2, a3, a4, a5, a6] = [some (.sh a0), some (.sh a1), some (.sh a2), some (.sh a3), some (.sh a4), some (.sh a5), some (.sh a6), none, none, none, none, none, none, none, none, none, none, none] := rfl
theorem ev_8_18 {a0 a1 a2 a3 a4 a5 a6 a7 : Dat} : envOf 18 [a0, a1, a2, a3, a4, a5, a6, a7] = [some (.sh a0), some (.sh a1), some (.sh a2), some (.sh a3), some (.sh a4), some (.sh a5), some (.sh a6), some (.sh a7), none, none, none, none, none, none, none, none, none, none] := rfl
theorem ev_1_19 {a0 : Dat} : envOf 19 [a0] = [some (.sh a0), none, none, none, none, none, none, none, none, none, none, none, none, none, none, none, none, none, none] := rfl
theorem ev_2_19 {a0 a1 : Dat} : envOf 19 [a0, a1] = [some (.sh a0), some (.sh a1), none, none, none, none, none, none, none, none, none, none, none, none, none, none, none, none, none] := rfl
theorem ev_3_19 {a0 a1 a2 : Dat} : envOf 19 [a0, a1, a2] = [some (.sh a0), some (.sh a1), some (.sh a2), none, none, none, none, none, none, none, none, none, none, none, none, none, none, none, none] := rfl
theorem ev_4_19 {a0 a1 a2 a3 : Dat} : envOf 19 [a0, a1, a2, a3] = [some (.sh a0), some (.sh a1), some (.sh a2), some (.sh a3), none, none, none, none, none, none, none, none, none, none, none, none, none, none, none] := rfl
theorem ev_5_19 {a0 a1 a2 a3 a4 : Dat} : envOf 19 [a0, a1, a2, a3, a4] = [some (.sh a0), some (.sh a1), some (.sh a2), some (.sh a3), some (.sh a4), none, none, none, none, none, none, none, none, none, none, none, none, none, none] := rfl
theorem ev_6_19 {a0 a1 a2 a3 a4 a5 : Dat} : envOf 19 [a0, a1, a2, a3, a4, a5] = [some (.sh a0), some (.sh a1), some (.sh a2), some (.sh a3), some (.sh a4), some (.sh a5), none, none, none, none, none, none, none, none, none, none, none, none, none] := rfl
theorem ev_7_19 {a0 a1 a2 a3 a4 a5 a6 : Dat} : envOf 19 [a0, a1, a2, a3, a4, a5, a6] = [some (.sh a0), some (.sh a1), some (.sh a2), some (.sh a3), some (.sh a4), some (.sh a5), some (.sh a6), none, none, none, none, none, none, none, none, none, none, none, none] := rfl
theorem ev_8_19 {a0 a1 a2 a3 a4 a5 a6 a7 : Dat} : envOf 19 [a0, a1, a2, a3, a4, a5, a6, a7] = [some (.sh a0), some (.sh a1), some (.sh a2), some (.sh a3), some (.sh a4), some (.sh a5), some (.sh a6), some (.sh a7), none, none, none, none, none, none, none, none, none, none, none] := rfl
theorem ev_1_20 {a0 : Dat} : envOf 20 [a0] = [some (.sh a0), none, none, none, none, none, none, none, none, none, none, none, none, none, none, none, none, none, none, none] := rfl
theorem ev_2_20 {a0 a1 : Dat} : envOf 20 [a0, a1] = [some (.sh a0), some (.sh a1), none, none, none, none, none, none, none, none, none, none, none, none, none, none, none, none, none, none] := rfl
theorem ev_3_20 {a0 a1 a2 : Dat} : envOf 20 [a0, a1, a2] = [some (.sh a0), some (.sh a1), some (.sh a2), none, none, none, none, none, none, none, none, none, none, none, none, none, none, none, none, none] := rfl
theorem ev_4_20 {a0 a1 a2 a3 : Dat} : envOf 20 [a0, a1, a2, a3] = [some (.sh a0), some (.sh a1), some (.sh a2), some (.sh a3), none, none, none, none, none, none, none, none, none, none, none, none, none, none, none, none] := rfl
theorem ev_5_20 {a0 a1 a2 a3 a4 : Dat} : envOf 20 [a0, a1, a2, a3, a4] = [some (.sh a0), some (.sh a1), some (.sh a2), some (.sh a3), some (.sh a4), none, none, none, none, none, none, none, none, none, none, none, none, none, none, none] := rfl
theorem ev_6_20 {a0 a1 a2 a3 a4 a5 : Dat} : envOf 20 [a0, a1, a2, a3, a4, a5] = [some (.sh a0), some (.sh a1), some (.sh a2), some (.sh a3), some (.sh a4), some (.sh a5), none, none, none, none, none, none, none, none, none, none, none, none, none, none] := rfl
theorem ev_7_20 {a0 a1 a2 a3 a4 a5 a6 : Dat} : envOf 20 [a0, a1, a2, a3, a4, a5, a6] = [some (.sh a0), some (.sh a1), some (.sh a2), some (.sh a3), some (.sh a4), some (.sh a5), some (.sh a6), none, none, none, none, none, none, none, none, none, none, none, none, none] := rfl
theorem ev_8_20 {a0 a1 a2 a3 a4 a5 a6 a7 : Dat} : envOf 20 [a0, a1, a2, a3, a4, a5, a6, a7] = [some (.sh a0), some (.sh a1), some (.sh a2), some (.sh a3), some (.sh a4), some (.sh a5), some (.sh a6), some (.sh a7), none, none, none, none, none, none, none, none, none, none, none, none] := rfl
theorem ev_1_21 {a0 : Dat} : envOf 21 [a0] = [some (.sh a0), none, none, none, none, none, none, none, none, none, none, none, none, none, none, none, none, none, none, none, none] := rfl
theorem ev_2_21 {a0 a1 : Dat} : envOf 21 [a0, a1] = [some (.sh a0), some (.sh a1), none, none, none, none, none, none, none, none, none, none, none, none, none, none, none, none, none, none, none] := rfl
theorem ev_3_21 {a0 a1 a2 : Dat} : envOf 21 [a0, a1, a2] = [some (.sh a0), some (.sh a1), some (.sh a2), none, none, none, none, none, none, none, none, none, none, none, none, none, none, none, none, none, none] := rfl
theorem ev_4_21 {a0 a1 a2 a3 : Dat} : envOf 21 [a0, a1, a2, a3] = [some (.sh a0), some (.sh a1), some (.sh a2), some (.sh a3), none, none, none, none, none, none, none, none, none, none, none, none, none, none, none, none, none] := rfl
theorem ev_5_21 {a0 a1 a2 a3 a4 : Dat} : envOf 21 [a0, a1, a2, a3, a4] = [some (.sh a0), some (.sh a1), some (.sh a2), some (.sh a3), some (.sh a4), none, none, none, none, none, none, none, none, none, none, none, none, none, none, none, none] := rfl
theorem ev_6_21 {a0 a1 a2 a3 a4 a5 : Dat} : envOf 21 [a0, a1, a2, a3, a4, a5] = [some (.sh a0), some (.sh a1), some (.sh a2), some (.sh a3), some (.sh a4), some (.sh a5), none, none, none, none, none, none, none, none, none, none, none, none, none, none, none] := rfl
theorem ev_7_21 {a0 a1 a2 a3 a4 a5 a6 : Dat} : envOf 21 [a0, a1, a2, a3, a4, a5, a6] = [some (.sh a0), some (.sh a1), some (.sh a2), some (.sh a3), some (.sh a4), some (.sh a5), some (.sh a6), none, none, none, none, none, none, none, none, none, none, none, none, none, none] := rfl
theorem ev_8_21 {a0 a1 a2 a3 a4 a5 a6 a7 : Dat} : envOf 21 [a0, a1, a2, a3, a4, a5, a6, a7] = [some (.sh a0), some (.sh a1), some (.sh a2), some (.sh a3), some (.sh a4), some (.sh a5), some (.sh a6), some (.sh a7), none, none, none, none, none, none, none, none, none, none, none, none, none] := rfl
section
variable {env : GI.Env} {i : Nat} {d : Dat} {st : Sto}
theorem lk_self {β : Type} {c : Str} {x : β} {r : List (Str × β)} : List.lookup c ((c, x) :: r) = some x := by
  simp [List.lookup]
theorem tg_name : tgName i d = some [(i, d)] := rfl
theorem tg_tup {u : Tgs} {ds : List Dat} : tgTup u (.tup ds) = u ds := rfl
theorem tg_cons {t : Tg} {u : Tgs} {r : List Dat} : tgCons t u (d :: r) = (t d).bind fun b => (u r).bind fun c => some (b ++ c) := rfl
theorem tg_nil : tgNil [] = some [] := rfl
theorem setE_nil : setE env [] = env := rfl
theorem setE_cons {r : List (Nat × Dat)} : setE env ((i, d) :: r) = setE (env.set i (some (.sh d))) r := rfl
theorem wipe_nil : wipeE env [] = env := rfl
theorem wipe_cons {v : Nat} {vs : List Nat} : wipeE env (v :: vs) = (wipeE env vs).set v none := rfl
theorem setS_nil : setS env [] [] = env := rfl
theorem setS_cons {s : Slot} {is : List Nat} {ss : List Slot} : setS env (i :: is) (s :: ss) = setS (env.set i (some s)) is ss := rfl
theorem relE_ow {ds : List Dat} (h : env[i]? = some (some (.ow ds))) : relE env i = env.set i (some (.sh (.lst ds))) := by
  unfold relE
  rw [h]
theorem relE_sh (h : env[i]? = some (some (.sh d))) : relE env i = env := by
  unfold relE
  rw [h]
end
section
variable {i j : Int}
theorem add_int : dAdd (.int i) (.int j) = some (.int (i + j)) := rfl
theorem sub_int : dSub (.int i) (.int j) = some (.int (i - j)) := rfl
theorem neg_int : dNeg (.int i) = some (.int (-i)) := rfl
theorem lt_int : dLt (.int i) (.int j) = some (.bl (decide (i < j))) := rfl
theorem le_int : dLe (.int i) (.int j) = some (.bl (decide (i ≤ j))) := rfl
theorem gt_int : dGt (.int i) (.int j) = some (.bl (decide (j < i))) := rfl
theorem ge_int : dGe (.int i) (.int j) = some (.bl (decide (j ≤ i))) := rfl
theorem not_bl {b : Bool} : dNot (.bl b) = some (.bl (!b)) := rfl
theorem mulR (h0 : -18446744073709551616 < j) (h1 : j < 18446744073709551616) : mulOk i j = true := decide_eq_true (.inr ⟨h0, h1⟩)
theorem mulL (h0 : -18446744073709551616 < i) (h1 : i < 18446744073709551616) : mulOk i j = true := decide_eq_true (.inl ⟨h0, h1⟩)
theorem mul_int (h : mulOk i j = true) : dMulI (.int i) (.int j) = some (.int (i * j)) := by
  show (if mulOk i j then _ else _) = _
  rw [if_pos h]
theorem mul_r (h0 : -18446744073709551616 < j) (h1 : j < 18446744073709551616) : dMulI (.int i) (.int j) = some (.int (i * j)) := mul_int (mulR h0 h1)
theorem mul_l (h0 : -18446744073709551616 < i) (h1 : i < 18446744073709551616) : dMulI (.int i) (.int j) = some (.int (i * j)) := mul_int (mulL h0 h1)
theorem mod_int (h : 0 < j) : dMod (.int i) (.int j) = some (.int (i % j)) := by
  show (if 0 < j then _ else _) = _
  rw [if_pos h]
theorem fdiv_int (h0 : 0 < j) (h1 : j < 18446744073709551616) : dFdiv (.int i) (.int j) = some (.int (i / j)) := by
  show (if divOk j then _ else _) = _
  rw [if_pos (show divOk j = true from decide_eq_true ⟨h0, h1⟩)]
theorem pow_int (h : powOk i j = true) : dPow (.int i) (.int j) = some (.int (i ^ j.toNat)) := by
  show (if powOk i j then _ else _) = _
  rw [if_pos h]
theorem pow6 : dPow (.int 10) (.int 6) = some (.int 1000000) := pow_int (by decide)
theorem pow7 : dPow (.int 10) (.int 7) = some (.int 10000000) := pow_int (by decide)
theorem pow8 : dPow (.int 10) (.int 8) = some (.int 100000000) := pow_int (by decide)
theorem pow9 : dPow (.int 10) (.int 9) = some (.int 1000000000) := pow_int (by decide)
theorem pow10 : dPow (.int 10) (.int 10) = some (.int 10000000000) := pow_int (by decide)
theorem pow18 : dPow (.int 10) (.int 18) = some (.int 1000000000000000000) := pow_int (by decide)
theorem int1 : dInt [.int i] = some (.int i) := rfl
theorem len_lst {ds : List Dat} : dLen [.lst ds] = some (.int ds.length) := rfl
theorem len_tup {ds : List Dat} : dLen [.tup ds] = some (.int ds.length) := rfl
theorem tuple_lst {ds : List Dat} : dTuple [.lst ds] = some (.tup ds) := rfl
theorem list_tup {ds : List Dat} : dList [.tup ds] = some (.lst ds) := rfl
theorem seq_lst {ds : List Dat} : seqD (.lst ds) = some ds := rfl
theorem seq_tup {ds : List Dat} : seqD (.tup ds) = some ds := rfl
theorem seq_scr {ds : List Dat} : seqD (.scr ds) = some ds := rfl
theorem enum_lst {ds : List Dat} : dEnum [.lst ds] = some (enumD ds) := rfl
theorem enum_tup {ds : List Dat} : dEnum [.tup ds] = some (enumD ds) := rfl
theorem add_l {xs ys : List Dat} (h : xs.length + ys.length ≤ 1000000) : dAdd (.lst xs) (.lst ys) = some (.lst (xs ++ ys)) := by
  unfold dAdd
  simp [h]
theorem add_t {xs ys : List Dat} (h : xs.length + ys.length ≤ 1000000) : dAdd (.tup xs) (.tup ys) = some (.tup (xs ++ ys)) := by
  unfold dAdd
  simp [h]
theorem mid_ok (h0 : 0 ≤ i) (h : i ≤ 1000000) : mid i = true := decide_eq_true ⟨by omega, by omega⟩
theorem range_nat {n : Nat} (h : n ≤ 1000000) : dRange1 [.int (n : Int)] = some (rangeD 0 n) := by
  show (if mid (n : Int) then some (rangeD 0 (n : Int).toNat) else none) = _
  rw [if_pos (mid_ok (by omega) (by omega)), Int.toNat_natCast]
theorem range_int (h0 : 0 ≤ i) (h : i ≤ 1000000) : dRange1 [.int i] = some (rangeD 0 i.toNat) := by
  show (if mid i then some (rangeD 0 i.toNat) else none) = _
  rw [if_pos (mid_ok h0 h)]
theorem rangeD_len (lo : Int) (n : Nat) : (rangeD lo n).length = n := by simp [rangeD]
theorem min_int : dMin2 [.int i, .int j] = some (.int (min i j)) := by
  show some (Dat.int (if j < i then j else i)) = _
  congr 2
  split <;> omega
theorem max_int : dMax2 [.int i, .int j] = some (.int (max i j)) := by
  show some (Dat.int (if j > i then j else i)) = _
  congr 2
  split <;> omega
theorem ix_l {ds : List Dat} (h0 : 0 ≤ i) (h1 : i < ds.length) : dIx (.lst ds) (.int i) = ds[i.toNat]? := by
  show L2.atI ds i = _
  unfold L2.atI L2.ixN
  simp [h0, h1]
theorem ix_t {ds : List Dat} (h0 : 0 ≤ i) (h1 : i < ds.length) : dIx (.tup ds) (.int i) = ds[i.toNat]? := by
  show L2.atI ds i = _
  unfold L2.atI L2.ixN
  simp [h0, h1]
end
theorem intsOf_map : ∀ ns : List Int, intsOf (ns.map Dat.int) = some ns
  | [] => rfl
  | n :: ns => by
    show (intsOf (ns.map Dat.int)).map (n :: ·) = _
    rw [intsOf_map ns]
    rfl
theorem boolsOf_map : ∀ ns : List Bool, boolsOf (ns.map Dat.bl) = some ns
  | [] => rfl
  | n :: ns => by
    show (boolsOf (ns.map Dat.bl)).map (n :: ·) = _
    rw [boolsOf_map ns]
    rfl
def srt (ns : List Int) : List Int := ns.mergeSort (fun a b => decide (a ≤ b))
theorem sort_ints (ns : List Int) : dSortI [.lst (ns.map Dat.int)] = some (.lst ((srt ns).map Dat.int)) := by
  show (intsOf (ns.map Dat.int)).map _ = _
  rw [intsOf_map]
  rfl
theorem sum_ints (ns : List Int) : dSum [.lst (ns.map Dat.int)] = some (.int ns.sum) := by
  show (intsOf (ns.map Dat.int)).map _ = _
  rw [intsOf_map]
  rfl
theorem all_bools (ns : List Bool) : dAll [.lst (ns.map Dat.bl)] = some (.bl (ns.all id)) := by
  show (boolsOf (ns.map Dat.bl)).map _ = _
  rw [boolsOf_map]
  rfl
theorem any_bools (ns : List Bool) : dAny [.lst (ns.map Dat.bl)] = some (.bl (ns.any id)) := by
  show (boolsOf (ns.map Dat.bl)).map _ = _
  rw [boolsOf_map]
  rfl
theorem srt_len (ns : List Int) : (srt ns).length = ns.length := List.length_mergeSort ns
theorem srt_mem {ns : List Int} {x : Int} : x ∈ srt ns ↔ x ∈ ns := List.mem_mergeSort
theorem srt_sorted (ns : List Int) : (srt ns).Pairwise (· ≤ ·) := by
  have h := List.pairwise_mergeSort (le := fun a b : Int => decide (a ≤ b)) (fun a b c h1 h2 => by simp at *; omega) (fun a b => by simp; omega) ns
  exact h.imp fun h => of_decide_eq_true h
inductive Pn : Nat → Dat → Prop
  | non (n : Nat) : Pn n .non
  | int (n : Nat) (i : Int) : Pn n (.int i)
  | str (n : Nat) (x : Str) : Pn n (.str x)
  | tup {n : Nat} {ds : List Dat} : (∀ d ∈ ds, Pn n d) → Pn (n + 1) (.tup ds)
  | lst {n : Nat} {ds : List Dat} : (∀ d ∈ ds, Pn n d) → Pn (n + 1) (.lst ds)
theorem Pn.mono : ∀ {n m : Nat} {d : Dat}, Pn n d → n ≤ m → Pn m d
  | _, m, _, .non _, _ => .non m
  | _, m, _, .int _ i, _ => .int m i
  | _, m, _, .str _ x, _ => .str m x
  | _, 0, _, .tup _, h => by omega
  | _, 0, _, .lst _, h => by omega
  | _, m + 1, _, .tup h, hm => .tup fun d hd => (h d hd).mono (by omega)
  | _, m + 1, _, .lst h, hm => .lst fun d hd => (h d hd).mono (by omega)
theorem toPyL_of {n : Nat} : ∀ {ds : List Dat}, (∀ d ∈ ds, ∃ p, toPy d = some p ∧ True ∧ p.depth ≤ n) → ∃ ps, toPyL ds = some ps ∧ True ∧ PyData.depthAll ps ≤ n
  | [], _ => ⟨[], rfl, trivial, Nat.zero_le _⟩
  | d :: ds, h => by
    obtain ⟨p, e, c, k⟩ := h d (by simp)
    obtain ⟨ps, e2, c2, k2⟩ := toPyL_of (ds := ds) fun x hx => h x (List.mem_cons_of_mem _ hx)
    refine ⟨p :: ps, ?_, ?_, ?_⟩
    · unfold toPyL
      rw [e, Option.bind_some, e2]
      rfl
    · trivial
    · unfold PyData.depthAll
      exact Nat.max_le.mpr ⟨k, k2⟩
theorem Pn.py : ∀ {n : Nat} {d : Dat}, Pn n d → ∃ p, toPy d = some p ∧ True ∧ p.depth ≤ n
  | _, _, .non n => ⟨.none, rfl, trivial, Nat.zero_le _⟩
  | _, _, .int n i => ⟨.int i, rfl, trivial, Nat.zero_le _⟩
  | _, _, .str n x => ⟨.str _, rfl, trivial, Nat.zero_le _⟩
  | _, .tup ds, .tup h => by
    obtain ⟨ps, e, c, k⟩ := toPyL_of fun d hd => (h d hd).py
    refine ⟨.tuple ps, ?_, ?_, ?_⟩
    · unfold toPy
      rw [e]
      rfl
    · trivial
    · unfold PyData.depth
      omega
  | _, .lst ds, .lst h => by
    obtain ⟨ps, e, c, k⟩ := toPyL_of fun d hd => (h d hd).py
    refine ⟨.list ps, ?_, ?_, ?_⟩
    · unfold toPy
      rw [e]
      rfl
    · trivial
    · unfold PyData.depth
      omega
theorem eqvL_of : ∀ {ds es : List Dat} {ps qs : List PyData}, (∀ d ∈ ds, ∀ e ∈ es, ∀ p q, toPy d = some p → toPy e = some q → (PyData.eqv p q = true ↔ d = e)) → toPyL ds = some ps → toPyL es = some qs → (PyData.eqvAll ps qs = true ↔ ds = es)
  | [], [], _, _, _, h1, h2 => by
    cases h1; cases h2
    simp [PyData.eqvAll]
  | [], e :: es, _, qs, _, h1, h2 => by
    cases h1
    unfold toPyL at h2
    obtain ⟨q, e1, h2⟩ := Option.bind_eq_some_iff.mp h2
    obtain ⟨qs', e2, h2⟩ := Option.bind_eq_some_iff.mp h2
    cases h2
    simp [PyData.eqvAll]
  | d :: ds, [], ps, _, _, h1, h2 => by
    cases h2
    unfold toPyL at h1
    obtain ⟨q, e1, h1⟩ := Option.bind_eq_some_iff.mp h1
    obtain ⟨qs', e2, h1⟩ := Option.bind_eq_some_iff.mp h1
    cases h1
    simp [PyData.eqvAll]
  | d :: ds, e :: es, ps, qs, h, h1, h2 => by
    unfold toPyL at h1 h2
    obtain ⟨p, e1, h1⟩ := Option.bind_eq_some_iff.mp h1
    obtain ⟨ps', e2, h1⟩ := Option.bind_eq_some_iff.mp h1
    cases h1
    obtain ⟨q, e3, h2⟩ := Option.bind_eq_some_iff.mp h2
    obtain ⟨qs', e4, h2⟩ := Option.bind_eq_some_iff.mp h2
    cases h2
    unfold PyData.eqvAll
    rw [Bool.and_eq_true, h d (by simp) e (by simp) p q e1 e3, eqvL_of (fun d hd e he => h d (List.mem_cons_of_mem _ hd) e (List.mem_cons_of_mem _ he)) e2 e4]
    exact ⟨fun ⟨a, b⟩ => by rw [a, b], fun z => by cases z; exact ⟨rfl, rfl⟩⟩
theorem toPy_tup {ds : List Dat} {p : PyData} (h : toPy (.tup ds) = some p) : ∃ ps, toPyL ds = some ps ∧ p = .tuple ps := by
  unfold toPy at h
  obtain ⟨ps, e, h⟩ := Option.map_eq_some_iff.mp h
  exact ⟨ps, e, h.symm⟩
theorem toPy_lst {ds : List Dat} {p : PyData} (h : toPy (.lst ds) = some p) : ∃ ps, toPyL ds = some ps ∧ p = .list ps := by
  unfold toPy at h
  obtain ⟨ps, e, h⟩ := Option.map_eq_some_iff.mp h
  exact ⟨ps, e, h.symm⟩
theorem Pn.eqv : ∀ {n m : Nat} {d e : Dat}, Pn n d → Pn m e → ∀ p q, toPy d = some p → toPy e = some q → (PyData.eqv p q = true ↔ d = e)
  | _, _, .tup ds, .tup es, .tup h, .tup k, p, q, hp, hq => by
    obtain ⟨ps, e1, rfl⟩ := toPy_tup hp
    obtain ⟨qs, e2, rfl⟩ := toPy_tup hq
    unfold PyData.eqv
    rw [eqvL_of (fun d hd e he => (h d hd).eqv (k e he)) e1 e2]
    exact ⟨fun z => by rw [z], fun z => by cases z; rfl⟩
  | _, _, .lst ds, .lst es, .lst h, .lst k, p, q, hp, hq => by
    obtain ⟨ps, e1, rfl⟩ := toPy_lst hp
    obtain ⟨qs, e2, rfl⟩ := toPy_lst hq
    unfold PyData.eqv
    rw [eqvL_of (fun d hd e he => (h d hd).eqv (k e he)) e1 e2]
    exact ⟨fun z => by rw [z], fun z => by cases z; rfl⟩
  | _, _, .tup ds, .lst es, .tup h, .lst k, p, q, hp, hq => by
    obtain ⟨ps, e1, rfl⟩ := toPy_tup hp
    obtain ⟨qs, e2, rfl⟩ := toPy_lst hq
    simp [PyData.eqv]
  | _, _, .lst ds, .tup es, .lst h, .tup k, p, q, hp, hq => by
    obtain ⟨ps, e1, rfl⟩ := toPy_lst hp
    obtain ⟨qs, e2, rfl⟩ := toPy_tup hq
    simp [PyData.eqv]
  | _, _, .tup ds, .non, .tup h, _, p, q, hp, hq => by obtain ⟨ps, e1, rfl⟩ := toPy_tup hp; cases hq; simp [PyData.eqv]
  | _, _, .tup ds, .int _, .tup h, _, p, q, hp, hq => by obtain ⟨ps, e1, rfl⟩ := toPy_tup hp; cases hq; simp [PyData.eqv]
  | _, _, .tup ds, .str _, .tup h, _, p, q, hp, hq => by obtain ⟨ps, e1, rfl⟩ := toPy_tup hp; cases hq; simp [PyData.eqv]
  | _, _, .lst ds, .non, .lst h, _, p, q, hp, hq => by obtain ⟨ps, e1, rfl⟩ := toPy_lst hp; cases hq; simp [PyData.eqv]
  | _, _, .lst ds, .int _, .lst h, _, p, q, hp, hq => by obtain ⟨ps, e1, rfl⟩ := toPy_lst hp; cases hq; simp [PyData.eqv]
  | _, _, .lst ds, .str _, .lst h, _, p, q, hp, hq => by obtain ⟨ps, e1, rfl⟩ := toPy_lst hp; cases hq; simp [PyData.eqv]
  | _, _, .non, .tup ds, _, .tup h, p, q, hp, hq => by obtain ⟨ps, e1, rfl⟩ := toPy_tup hq; cases hp; simp [PyData.eqv]
  | _, _, .int _, .tup ds, _, .tup h, p, q, hp, hq => by obtain ⟨ps, e1, rfl⟩ := toPy_tup hq; cases hp; simp [PyData.eqv]
  | _, _, .str _, .tup ds, _, .tup h, p, q, hp, hq => by obtain ⟨ps, e1, rfl⟩ := toPy_tup hq; cases hp; simp [PyData.eqv]
  | _, _, .non, .lst ds, _, .lst h, p, q, hp, hq => by obtain ⟨ps, e1, rfl⟩ := toPy_lst hq; cases hp; simp [PyData.eqv]
  | _, _, .int _, .lst ds, _, .lst h, p, q, hp, hq => by obtain ⟨ps, e1, rfl⟩ := toPy_lst hq; cases hp; simp [PyData.eqv]
  | _, _, .str _, .lst ds, _, .lst h, p, q, hp, hq => by obtain ⟨ps, e1, rfl⟩ := toPy_lst hq; cases hp; simp [PyData.eqv]
  | _, _, .non, .non, _, _, p, q, hp, hq => by cases hp; cases hq; simp [PyData.eqv]
  | _, _, .non, .int _, _, _, p, q, hp, hq => by cases hp; cases hq; simp [PyData.eqv]
  | _, _, .non, .str _, _, _, p, q, hp, hq => by cases hp; cases hq; simp [PyData.eqv]
  | _, _, .int _, .non, _, _, p, q, hp, hq => by cases hp; cases hq; simp [PyData.eqv]
  | _, _, .int _, .int _, _, _, p, q, hp, hq => by cases hp; cases hq; simp [PyData.eqv]
  | _, _, .int _, .str _, _, _, p, q, hp, hq => by cases hp; cases hq; simp [PyData.eqv]
  | _, _, .str _, .non, _, _, p, q, hp, hq => by cases hp; cases hq; simp [PyData.eqv]
  | _, _, .str _, .int _, _, _, p, q, hp, hq => by cases hp; cases hq; simp [PyData.eqv]
  | _, _, .str _, .str _, _, _, p, q, hp, hq => by cases hp; cases hq; simp [PyData.eqv]
open Classical in
theorem dEq_pn {n m : Nat} {d e : Dat} (h : Pn n d) (k : Pn m e) (hn : n ≤ 64) (hm : m ≤ 64) : dEq d e = some (.bl (decide (d = e))) := by
  obtain ⟨p, e1, c1, k1⟩ := h.py
  obtain ⟨q, e2, c2, k2⟩ := k.py
  unfold dEq
  rw [e1, e2]
  dsimp only
  rw [if_pos (by rw [decide_eq_true (show p.depth ≤ 64 by omega), decide_eq_true (show q.depth ≤ 64 by omega)]; rfl)]
  congr 2
  have z := h.eqv k p q e1 e2
  by_cases y : d = e
  · rw [decide_eq_true y]; exact z.mpr y
  · rw [decide_eq_false y]; exact Bool.eq_false_iff.mpr fun w => y (z.mp w)
open Classical in
theorem dNe_pn {n m : Nat} {d e : Dat} (h : Pn n d) (k : Pn m e) (hn : n ≤ 64) (hm : m ≤ 64) : dNe d e = some (.bl (decide (d ≠ e))) := by
  have q := dEq_pn h k hn hm
  unfold dEq at q
  unfold dNe
  cases e1 : toPy d with
  | none => rw [e1] at q; cases q
  | some p =>
    rw [e1] at q
    cases e2 : toPy e with
    | none => rw [e2] at q; cases q
    | some p' =>
      rw [e2] at q
      dsimp only at q ⊢
      split at q
      · rename_i z
        rw [if_pos z]
        have q : PyData.eqv p p' = decide (d = e) := by injection q with q; injection q
        rw [q]
        by_cases y : d = e
        · simp [y]
        · simp [y]
      · cases q
theorem dEq_int (i j : Int) : dEq (.int i) (.int j) = some (.bl (decide (i = j))) := by
  show some (Dat.bl (PyData.eqv (.int i) (.int j))) = _
  unfold PyData.eqv
  rfl
theorem dNe_int (i j : Int) : dNe (.int i) (.int j) = some (.bl (decide (i ≠ j))) := by
  show some (Dat.bl (!PyData.eqv (.int i) (.int j))) = _
  unfold PyData.eqv
  rw [show decide (i ≠ j) = !decide (i = j) from by by_cases h : i = j <;> simp [h]]
  rfl
theorem dEq_str (x y : Str) : dEq (.str x) (.str y) = some (.bl (x == y)) := by
  show some (Dat.bl (PyData.eqv (.str x) (.str y))) = _
  unfold PyData.eqv
  rfl
theorem pn_ints {n : Nat} {ns : List Int} : ∀ d ∈ ns.map Dat.int, Pn n d := fun d hd => by
  obtain ⟨i, _, rfl⟩ := List.mem_map.mp hd
  exact .int n i
theorem dNe_nil (ns : List Int) : dNe (.lst (ns.map Dat.int)) (.lst []) = some (.bl (decide (ns ≠ []))) := by
  rw [dNe_pn (n := 1) (m := 1) (.lst pn_ints) (.lst fun _ h => by cases h) (by decide) (by decide)]
  congr 2
  cases ns <;> simp
/-- repr can show it: depth at most n, at most b signs -/
def Rp (n b : Nat) (d : Dat) : Prop := ∃ p, toPy d = some p ∧ p.showable = true ∧ p.depth ≤ n ∧ p.shown.length ≤ b
theorem Rp.mono {n m b c : Nat} {d : Dat} (h : Rp n b d) (hn : n ≤ m) (hb : b ≤ c) : Rp m c d := by
  obtain ⟨p, e, s, k, l⟩ := h
  exact ⟨p, e, s, by omega, by omega⟩
theorem Rp.repr {n b : Nat} {d : Dat} (h : Rp n b d) (hn : n ≤ 64) (hb : b ≤ 1000000) : ∃ x, dRepr [d] = some (.str x) := by
  obtain ⟨p, e, s, k, l⟩ := h
  refine ⟨p.shown, ?_⟩
  show (match toPy d with | some p => if p.showable && decide (p.depth ≤ 64) && decide (p.shown.length ≤ 1000000) then some (Dat.str p.shown) else none | none => none) = _
  rw [e]
  dsimp only
  rw [if_pos (by rw [s, decide_eq_true (show p.depth ≤ 64 by omega), decide_eq_true (show p.shown.length ≤ 1000000 by omega)]; rfl)]
theorem rp_int {i : Int} (h0 : -10 ^ 100 < i) (h1 : i < 10 ^ 100) : Rp 0 101 (.int i) := by
  have hn : i.natAbs < 10 ^ 100 := by omega
  refine ⟨.int i, rfl, ?_, Nat.le_refl _, ?_⟩
  · unfold PyData.showable
    refine decide_eq_true ?_
    by_cases z : i.natAbs = 0
    · rw [z]; decide
    · exact (Nat.log2_lt z).mpr (Nat.lt_trans hn (by decide +kernel))
  · show (Str.ofString (toString i)).length ≤ 101
    rw [ofString_length]
    exact int_text_length_le10 (k := 100) (by decide) hn
theorem rp_bl (b : Bool) : Rp 0 101 (.bl b) := by
  refine ⟨.bool b, rfl, rfl, Nat.le_refl _, ?_⟩
  cases b <;> decide
theorem rp_non : Rp 0 101 .non := ⟨.none, rfl, rfl, Nat.le_refl _, by decide⟩
theorem shownL_of {n b : Nat} : ∀ {ds : List Dat}, (∀ d ∈ ds, Rp n b d) → ∃ ps, toPyL ds = some ps ∧ PyData.showableAll ps = true ∧ PyData.depthAll ps ≤ n ∧ piled (PyData.shownAll ps) ≤ ds.length * (b + 2)
  | [], _ => ⟨[], rfl, rfl, Nat.zero_le _, by simp [PyData.shownAll, piled]⟩
  | d :: ds, h => by
    obtain ⟨p, e, c, k, l⟩ := h d (by simp)
    obtain ⟨ps, e2, c2, k2, l2⟩ := shownL_of (ds := ds) fun x hx => h x (List.mem_cons_of_mem _ hx)
    refine ⟨p :: ps, ?_, ?_, ?_, ?_⟩
    · unfold toPyL
      rw [e, Option.bind_some, e2]
      rfl
    · unfold PyData.showableAll
      rw [c, c2]
      rfl
    · unfold PyData.depthAll
      exact Nat.max_le.mpr ⟨k, k2⟩
    · unfold PyData.shownAll
      rw [piled_cons, List.length_cons, Nat.succ_mul]
      omega
theorem tupleText_le (ts : List Str) : (tupleText ts).length ≤ piled ts + 3 := by
  unfold tupleText
  rw [strLen_append, strLen_append]
  have e1 : ((("(" : String) : Str)).length = 1 := rfl
  have e3 : (((if ts.length == 1 then ",)" else ")" : String) : Str)).length ≤ 2 := by split <;> decide
  have e2 : (Str.join ", " ts).length ≤ piled ts := by
    cases ts with
    | nil => decide
    | cons t r => have := join_length_add (t :: r) (by simp); omega
  omega
theorem listText_le (ts : List Str) : (listText ts).length ≤ piled ts + 3 := by
  cases ts with
  | nil => decide
  | cons t r =>
    have h := textFrom_length_pos r 1 (("[" : Str) ++ (if (0 : Nat) > 0 then ", " else "" : String) ++ t) (Nat.succ_pos 0)
    have e : ((("[" : Str) ++ (if (0 : Nat) > 0 then ", " else "" : String) ++ t)).length = 1 + t.length := by
      rw [strLen_append, strLen_append]
      rfl
    have e2 : listText (t :: r) = textFrom 1 (("[" : Str) ++ (if (0 : Nat) > 0 then ", " else "" : String) ++ t) r ++ "]" := rfl
    rw [e2, strLen_append, h, e, piled_cons]
    have e3 : ((("]" : String) : Str)).length = 1 := rfl
    omega
theorem rp_tup {n b m : Nat} {ds : List Dat} (h : ∀ d ∈ ds, Rp n b d) (hm : ds.length ≤ m) : Rp (n + 1) (m * (b + 2) + 3) (.tup ds) := by
  obtain ⟨ps, e, c, k, l⟩ := shownL_of h
  refine ⟨.tuple ps, ?_, ?_, ?_, ?_⟩
  · unfold toPy
    rw [e]
    rfl
  · unfold PyData.showable
    exact c
  · unfold PyData.depth
    omega
  · unfold PyData.shown
    have := tupleText_le (PyData.shownAll ps)
    have : ds.length * (b + 2) ≤ m * (b + 2) := Nat.mul_le_mul_right _ hm
    omega
theorem rp_lst {n b m : Nat} {ds : List Dat} (h : ∀ d ∈ ds, Rp n b d) (hm : ds.length ≤ m) : Rp (n + 1) (m * (b + 2) + 3) (.lst ds) := by
  obtain ⟨ps, e, c, k, l⟩ := shownL_of h
  refine ⟨.list ps, ?_, ?_, ?_, ?_⟩
  · unfold toPy
    rw [e]
    rfl
  · unfold PyData.showable
    exact c
  · unfold PyData.depth
    omega
  · unfold PyData.shown
    have := listText_le (PyData.shownAll ps)
    have : ds.length * (b + 2) ≤ m * (b + 2) := Nat.mul_le_mul_right _ hm
    omega
theorem toPy_str (x : Str) : toPy (.str x) = some (.str x) := rfl
theorem eqv_str (x : Str) : PyData.eqv (.str x) (.str x) = true := by
  unfold PyData.eqv
  exact beq_self_eq_true x
end GP
set_option Elab.async false
set_option linter.all false
set_option maxRecDepth 100000
set_option maxHeartbeats 2000000
namespace LW
open PySem GI GP
/-- the machine of draws -/
def mk0 (gs : List Int) (s : Int) (k : Nat) : List (Str × Dat) := [("great", .lst (gs.map Dat.int)), ("seed", .int s), ("at", .int (k : Int))]
def mach (gs : List Int) (s : Int) (k : Nat) (rest : Sto) : Sto := .dk (mk0 gs s k) :: rest
/-- at most a draws of its own so far -/
def Mst (a : Nat) (rest : Sto) (st : Sto) : Prop := ∃ (gs : List Int) (s : Int) (k : Nat), st = mach gs s k rest ∧ k ≤ a ∧ (∀ g ∈ gs, 0 ≤ g) ∧ gs.length ≤ 63 ∧ 0 ≤ s ∧ s < 2147483647
theorem Mst.mono {a b : Nat} {rest st : Sto} (h : Mst a rest st) (i : a ≤ b) : Mst b rest st := by
  obtain ⟨gs, s, k, e, h1, h2⟩ := h
  exact ⟨gs, s, k, e, Nat.le_trans h1 i, h2⟩
theorem get_mach {gs : List Int} {s : Int} {k : Nat} {rest : Sto} {P : Nat → List (Str × Dat) → Prop} : lI (.loc 0) (mach gs s k rest) P ↔ P 0 (mk0 gs s k) := Iff.rfl
theorem kg_great {gs : List Int} {s : Int} {k : Nat} : kget (mk0 gs s k) "great" = some (.lst (gs.map Dat.int)) := rfl
theorem kg_seed {gs : List Int} {s : Int} {k : Nat} : kget (mk0 gs s k) "seed" = some (.int s) := by
  unfold mk0 kget
  rw [if_neg (by decide)]
  unfold kget
  rw [if_pos rfl]
theorem kg_at {gs : List Int} {s : Int} {k : Nat} : kget (mk0 gs s k) "at" = some (.int (k : Int)) := by
  unfold mk0 kget
  rw [if_neg (by decide)]
  unfold kget
  rw [if_neg (by decide)]
  unfold kget
  rw [if_pos rfl]
theorem kp_great {gs gs' : List Int} {s : Int} {k : Nat} : kput (mk0 gs s k) "great" (.lst (gs'.map Dat.int)) = some (mk0 gs' s k) := rfl
theorem kp_at {gs : List Int} {s : Int} {k : Nat} : kput (mk0 gs s k) "at" (.int ((k : Int) + 1)) = some (mk0 gs s (k + 1)) := by
  unfold mk0 kput
  rw [if_neg (by decide)]
  unfold kput
  rw [if_neg (by decide)]
  unfold kput
  rw [if_pos rfl]
  rfl
theorem cut1 (g : Int) (gs : List Int) : cutD ((g :: gs).map Dat.int) (some 1) none = gs.map Dat.int := by
  unfold cutD HT.sIx
  simp [List.take_of_length_le]
theorem ix0 {g : Int} {gs : List Int} : dIx (.lst ((g :: gs).map Dat.int)) (.int 0) = some (.int g) := by
  show L2.atI _ 0 = _
  unfold L2.atI
  simp [L2.ixN]
theorem ne0 : dNe (.lst (([] : List Int).map Dat.int)) (.lst []) = some (.bl false) := dNe_nil []
theorem ne1 {g : Int} {gs : List Int} : dNe (.lst ((g :: gs).map Dat.int)) (.lst []) = some (.bl true) := dNe_nil (g :: gs)
theorem set_mach {gs gs' : List Int} {s s' : Int} {k k' : Nat} {rest : Sto} : List.set (mach gs s k rest) 0 (SObj.dk (mk0 gs' s' k')) = mach gs' s' k' rest := rfl
theorem draw_spec {a : Nat} {rest st : Sto} {top : Int} {R : Dat → Sto → Prop} {E : XP} (h : Mst a rest st) (ha : a ≤ 1000000000) (h0 : 0 < top) (h1 : top < 2 ^ 63) (k : ∀ r st', 0 ≤ r → r < top → Mst (a + 1) rest st' → R (.int r) st') : Is (F_l_draw [.loc 0, .int top] st) R E := by
  unfold F_l_draw b_l_draw_den
  rw [is_fnF, si_Seq, ev_2_5]
  have top1 : -18446744073709551616 < top := by omega
  have top2 : top < 18446744073709551616 := by omega
  refine while_inv (fun m env st => env = [some (.sh (.loc 0)), some (.sh (.int top)), none, none, none] ∧ ∃ gs s k, st = mach gs s k rest ∧ gs.length ≤ m ∧ k ≤ a ∧ (∀ g ∈ gs, 0 ≤ g) ∧ gs.length ≤ 63 ∧ 0 ≤ s ∧ s < 2147483647) (fun m env st ⟨he, gs, s, kk, hst, hl, h2, h3, h4, h5, h6⟩ => ?_) FUEL 63 _ _ (by decide) ?_
  · subst he hst
    cases gs with
    | nil =>
      have hk : ((kk : Int) + 1) < 18446744073709551616 := by omega
      have hk0 : -18446744073709551616 < ((kk : Int) + 1) := by omega
      simp only [is_2, is_1, is_Isi, is_B, is_Cons, is_Nil, is_Get, is_Var, vi_sh, is_C, is_Tup, is_Lst, is_Ite, is_And, is_Or, is_Call, is_Seq', is_L, is_Sl, pi_none, pi_some, ex_int, is_Chain, is_Lc, is_few, is_slNil, is_slSh, is_slOw, si_nx, si_rt, si_Seq, si_Skip, si_Break, si_Cont, si_RetN, si_Asg, si_Ret, si_Do, si_If, si_For, si_AsgT, si_Put, si_Rel, si_App, ai_ow, si_AsgO, si_Par, is_Dict, is_Attr, ti_obj, is_Make, is_Meth, mi_obj, is_LenO, ni_obj, ni_tup, ni_lst, is_EqO, ei_obj, ei_tup, ei_lst, ei_int, is_IxO, xi_obj, xi_tup, xi_lst, si_SetA, ui_ob, is_Lc2, is_fnF, is_fnI, bi_t, bi_f, oi_some, List.getElem?_cons_zero, List.getElem?_cons_succ, List.set_cons_zero, List.set_cons_succ, List.length_cons, List.length_nil, Nat.reduceAdd, Nat.reduceLeDiff, true_and, and_true, lk_self, tg_name, tg_tup, tg_cons, tg_nil, Option.bind_some, List.cons_append, List.nil_append, setE_nil, setE_cons, wipe_nil, wipe_cons, setS_nil, setS_cons, add_int, sub_int, neg_int, lt_int, le_int, gt_int, ge_int, not_bl, dEq_int, dNe_int, pow6, pow7, pow8, pow9, pow10, pow18, int1, len_lst, len_tup, tuple_lst, list_tup, seq_lst, seq_tup, seq_scr, enum_lst, enum_tup, min_int, max_int, get_mach, kg_great, kg_at, kg_seed, ne0, kp_at, set_mach]
      simp (disch := first | assumption | decide) only [is_2, is_1, is_Isi, is_B, is_Cons, is_Nil, is_Get, is_Var, vi_sh, is_C, is_Tup, is_Lst, is_Ite, is_And, is_Or, is_Call, is_Seq', is_L, is_Sl, pi_none, pi_some, ex_int, is_Chain, is_Lc, is_few, is_slNil, is_slSh, is_slOw, si_nx, si_rt, si_Seq, si_Skip, si_Break, si_Cont, si_RetN, si_Asg, si_Ret, si_Do, si_If, si_For, si_AsgT, si_Put, si_Rel, si_App, ai_ow, si_AsgO, si_Par, is_Dict, is_Attr, ti_obj, is_Make, is_Meth, mi_obj, is_LenO, ni_obj, ni_tup, ni_lst, is_EqO, ei_obj, ei_tup, ei_lst, ei_int, is_IxO, xi_obj, xi_tup, xi_lst, si_SetA, ui_ob, is_Lc2, is_fnF, is_fnI, bi_t, bi_f, oi_some, List.getElem?_cons_zero, List.getElem?_cons_succ, List.set_cons_zero, List.set_cons_succ, List.length_cons, List.length_nil, Nat.reduceAdd, Nat.reduceLeDiff, true_and, and_true, lk_self, tg_name, tg_tup, tg_cons, tg_nil, Option.bind_some, List.cons_append, List.nil_append, setE_nil, setE_cons, wipe_nil, wipe_cons, setS_nil, setS_cons, add_int, sub_int, neg_int, lt_int, le_int, gt_int, ge_int, not_bl, dEq_int, dNe_int, pow6, pow7, pow8, pow9, pow10, pow18, int1, len_lst, len_tup, tuple_lst, list_tup, seq_lst, seq_tup, seq_scr, enum_lst, enum_tup, min_int, max_int, get_mach, kg_great, kg_at, kg_seed, ne0, kp_at, set_mach, mul_r, mod_int, fdiv_int]
      refine k _ _ (Int.emod_nonneg _ (by omega)) (Int.emod_lt_of_pos _ h0) ⟨[], s, kk + 1, rfl, by omega, h3, by simp, h5, h6⟩
    | cons g gs =>
      rw [List.length_cons] at hl h4
      simp only [is_2, is_1, is_Isi, is_B, is_Cons, is_Nil, is_Get, is_Var, vi_sh, is_C, is_Tup, is_Lst, is_Ite, is_And, is_Or, is_Call, is_Seq', is_L, is_Sl, pi_none, pi_some, ex_int, is_Chain, is_Lc, is_few, is_slNil, is_slSh, is_slOw, si_nx, si_rt, si_Seq, si_Skip, si_Break, si_Cont, si_RetN, si_Asg, si_Ret, si_Do, si_If, si_For, si_AsgT, si_Put, si_Rel, si_App, ai_ow, si_AsgO, si_Par, is_Dict, is_Attr, ti_obj, is_Make, is_Meth, mi_obj, is_LenO, ni_obj, ni_tup, ni_lst, is_EqO, ei_obj, ei_tup, ei_lst, ei_int, is_IxO, xi_obj, xi_tup, xi_lst, si_SetA, ui_ob, is_Lc2, is_fnF, is_fnI, bi_t, bi_f, oi_some, List.getElem?_cons_zero, List.getElem?_cons_succ, List.set_cons_zero, List.set_cons_succ, List.length_cons, List.length_nil, Nat.reduceAdd, Nat.reduceLeDiff, true_and, and_true, lk_self, tg_name, tg_tup, tg_cons, tg_nil, Option.bind_some, List.cons_append, List.nil_append, setE_nil, setE_cons, wipe_nil, wipe_cons, setS_nil, setS_cons, add_int, sub_int, neg_int, lt_int, le_int, gt_int, ge_int, not_bl, dEq_int, dNe_int, pow6, pow7, pow8, pow9, pow10, pow18, int1, len_lst, len_tup, tuple_lst, list_tup, seq_lst, seq_tup, seq_scr, enum_lst, enum_tup, min_int, max_int, get_mach, kg_great, ne1, ix0, bi_dec]
      refine ⟨fun hz => ?_, fun hz => ?_⟩
      · simp only [is_2, is_1, is_Isi, is_B, is_Cons, is_Nil, is_Get, is_Var, vi_sh, is_C, is_Tup, is_Lst, is_Ite, is_And, is_Or, is_Call, is_Seq', is_L, is_Sl, pi_none, pi_some, ex_int, is_Chain, is_Lc, is_few, is_slNil, is_slSh, is_slOw, si_nx, si_rt, si_Seq, si_Skip, si_Break, si_Cont, si_RetN, si_Asg, si_Ret, si_Do, si_If, si_For, si_AsgT, si_Put, si_Rel, si_App, ai_ow, si_AsgO, si_Par, is_Dict, is_Attr, ti_obj, is_Make, is_Meth, mi_obj, is_LenO, ni_obj, ni_tup, ni_lst, is_EqO, ei_obj, ei_tup, ei_lst, ei_int, is_IxO, xi_obj, xi_tup, xi_lst, si_SetA, ui_ob, is_Lc2, is_fnF, is_fnI, bi_t, bi_f, oi_some, List.getElem?_cons_zero, List.getElem?_cons_succ, List.set_cons_zero, List.set_cons_succ, List.length_cons, List.length_nil, Nat.reduceAdd, Nat.reduceLeDiff, true_and, and_true, lk_self, tg_name, tg_tup, tg_cons, tg_nil, Option.bind_some, List.cons_append, List.nil_append, setE_nil, setE_cons, wipe_nil, wipe_cons, setS_nil, setS_cons, add_int, sub_int, neg_int, lt_int, le_int, gt_int, ge_int, not_bl, dEq_int, dNe_int, pow6, pow7, pow8, pow9, pow10, pow18, int1, len_lst, len_tup, tuple_lst, list_tup, seq_lst, seq_tup, seq_scr, enum_lst, enum_tup, min_int, max_int, get_mach, kg_great, dSl, cut1, kp_great, set_mach]
        exact ⟨gs.length, by omega, gs, s, kk, rfl, Nat.le_refl _, h2, fun x hx => h3 x (List.mem_cons_of_mem _ hx), by omega, h5, h6⟩
      · simp (disch := first | assumption | decide) only [is_2, is_1, is_Isi, is_B, is_Cons, is_Nil, is_Get, is_Var, vi_sh, is_C, is_Tup, is_Lst, is_Ite, is_And, is_Or, is_Call, is_Seq', is_L, is_Sl, pi_none, pi_some, ex_int, is_Chain, is_Lc, is_few, is_slNil, is_slSh, is_slOw, si_nx, si_rt, si_Seq, si_Skip, si_Break, si_Cont, si_RetN, si_Asg, si_Ret, si_Do, si_If, si_For, si_AsgT, si_Put, si_Rel, si_App, ai_ow, si_AsgO, si_Par, is_Dict, is_Attr, ti_obj, is_Make, is_Meth, mi_obj, is_LenO, ni_obj, ni_tup, ni_lst, is_EqO, ei_obj, ei_tup, ei_lst, ei_int, is_IxO, xi_obj, xi_tup, xi_lst, si_SetA, ui_ob, is_Lc2, is_fnF, is_fnI, bi_t, bi_f, oi_some, List.getElem?_cons_zero, List.getElem?_cons_succ, List.set_cons_zero, List.set_cons_succ, List.length_cons, List.length_nil, Nat.reduceAdd, Nat.reduceLeDiff, true_and, and_true, lk_self, tg_name, tg_tup, tg_cons, tg_nil, Option.bind_some, List.cons_append, List.nil_append, setE_nil, setE_cons, wipe_nil, wipe_cons, setS_nil, setS_cons, add_int, sub_int, neg_int, lt_int, le_int, gt_int, ge_int, not_bl, dEq_int, dNe_int, pow6, pow7, pow8, pow9, pow10, pow18, int1, len_lst, len_tup, tuple_lst, list_tup, seq_lst, seq_tup, seq_scr, enum_lst, enum_tup, min_int, max_int, get_mach, kg_great, ne1, ix0, bi_dec, dSl, cut1, fdiv_int]
        rw [show dAdd (Dat.lst [Dat.int (g / top)]) (Dat.lst (gs.map Dat.int)) = some (.lst (((g / top) :: gs).map Dat.int)) from add_l (by simp; omega), oi_some, kp_great, oi_some, mod_int h0, oi_some]
        refine k _ _ (Int.emod_nonneg _ (by omega)) (Int.emod_lt_of_pos _ h0) ⟨(g / top) :: gs, s, kk, rfl, by omega, fun x hx => ?_, by rw [List.length_cons]; omega, h5, h6⟩
        rcases List.mem_cons.mp hx with e | e
        · rw [e]; exact Int.ediv_nonneg (h3 g (by simp)) (by omega)
        · exact h3 x (List.mem_cons_of_mem _ e)
  · obtain ⟨gs, s, kk, e, h2, h3, h4, h5, h6⟩ := h
    exact ⟨rfl, gs, s, kk, e, h4, h2, h3, h4, h5, h6⟩
theorem wide_spec {a : Nat} {rest st : Sto} {lo hi : Int} {R : Dat → Sto → Prop} {E : XP} (h : Mst a rest st) (ha : a + 2 ≤ 1000000000) (h0 : lo ≤ hi) (k : ∀ r st', lo ≤ r → r ≤ hi → Mst (a + 2) rest st' → R (.int r) st') : Is (F_l_wide [.loc 0, .int lo, .int hi] st) R E := by
  unfold F_l_wide b_l_wide_den
  simp only [is_2, is_1, is_Isi, is_B, is_Cons, is_Nil, is_Get, is_Var, vi_sh, is_C, is_Tup, is_Lst, is_Ite, is_And, is_Or, is_Call, is_Seq', is_L, is_Sl, pi_none, pi_some, ex_int, is_Chain, is_Lc, is_few, is_slNil, is_slSh, is_slOw, si_nx, si_rt, si_Seq, si_Skip, si_Break, si_Cont, si_RetN, si_Asg, si_Ret, si_Do, si_If, si_For, si_AsgT, si_Put, si_Rel, si_App, ai_ow, si_AsgO, si_Par, is_Dict, is_Attr, ti_obj, is_Make, is_Meth, mi_obj, is_LenO, ni_obj, ni_tup, ni_lst, is_EqO, ei_obj, ei_tup, ei_lst, ei_int, is_IxO, xi_obj, xi_tup, xi_lst, si_SetA, ui_ob, is_Lc2, is_fnF, is_fnI, bi_t, bi_f, oi_some, List.getElem?_cons_zero, List.getElem?_cons_succ, List.set_cons_zero, List.set_cons_succ, List.length_cons, List.length_nil, Nat.reduceAdd, Nat.reduceLeDiff, true_and, and_true, lk_self, tg_name, tg_tup, tg_cons, tg_nil, Option.bind_some, List.cons_append, List.nil_append, setE_nil, setE_cons, wipe_nil, wipe_cons, setS_nil, setS_cons, add_int, sub_int, neg_int, lt_int, le_int, gt_int, ge_int, not_bl, dEq_int, dNe_int, pow6, pow7, pow8, pow9, pow10, pow18, int1, len_lst, len_tup, tuple_lst, list_tup, seq_lst, seq_tup, seq_scr, enum_lst, enum_tup, min_int, max_int, ev_1_1, ev_1_2, ev_2_2, ev_1_3, ev_2_3, ev_3_3, ev_1_4, ev_2_4, ev_3_4, ev_4_4, ev_1_5, ev_2_5, ev_3_5, ev_4_5, ev_5_5, ev_1_6, ev_2_6, ev_3_6, ev_4_6, ev_5_6, ev_6_6, ev_1_7, ev_2_7, ev_3_7, ev_4_7, ev_5_7, ev_6_7, ev_7_7, ev_1_8, ev_2_8, ev_3_8, ev_4_8, ev_5_8, ev_6_8, ev_7_8, ev_8_8, ev_1_9, ev_2_9, ev_3_9, ev_4_9, ev_5_9, ev_6_9, ev_7_9, ev_8_9, ev_1_10, ev_2_10, ev_3_10, ev_4_10, ev_5_10, ev_6_10, ev_7_10, ev_8_10, ev_1_11, ev_2_11, ev_3_11, ev_4_11, ev_5_11, ev_6_11, ev_7_11, ev_8_11, ev_1_12, ev_2_12, ev_3_12, ev_4_12, ev_5_12, ev_6_12, ev_7_12, ev_8_12, ev_1_13, ev_2_13, ev_3_13, ev_4_13, ev_5_13, ev_6_13, ev_7_13, ev_8_13, ev_1_14, ev_2_14, ev_3_14, ev_4_14, ev_5_14, ev_6_14, ev_7_14, ev_8_14, ev_1_15, ev_2_15, ev_3_15, ev_4_15, ev_5_15, ev_6_15, ev_7_15, ev_8_15, ev_1_16, ev_2_16, ev_3_16, ev_4_16, ev_5_16, ev_6_16, ev_7_16, ev_8_16, ev_1_17, ev_2_17, ev_3_17, ev_4_17, ev_5_17, ev_6_17, ev_7_17, ev_8_17, ev_1_18, ev_2_18, ev_3_18, ev_4_18, ev_5_18, ev_6_18, ev_7_18, ev_8_18, ev_1_19, ev_2_19, ev_3_19, ev_4_19, ev_5_19, ev_6_19, ev_7_19, ev_8_19, ev_1_20, ev_2_20, ev_3_20, ev_4_20, ev_5_20, ev_6_20, ev_7_20, ev_8_20, ev_1_21, ev_2_21, ev_3_21, ev_4_21, ev_5_21, ev_6_21, ev_7_21, ev_8_21]
  refine draw_spec h (by omega) (by decide) (by decide) fun r st1 r0 r1 m1 => ?_
  rw [mul_int (mulR (by decide) (by decide)), oi_some]
  refine draw_spec m1 (by omega) (by decide) (by decide) fun r' st2 r0' r1' m2 => ?_
  simp only [is_2, is_1, is_Isi, is_B, is_Cons, is_Nil, is_Get, is_Var, vi_sh, is_C, is_Tup, is_Lst, is_Ite, is_And, is_Or, is_Call, is_Seq', is_L, is_Sl, pi_none, pi_some, ex_int, is_Chain, is_Lc, is_few, is_slNil, is_slSh, is_slOw, si_nx, si_rt, si_Seq, si_Skip, si_Break, si_Cont, si_RetN, si_Asg, si_Ret, si_Do, si_If, si_For, si_AsgT, si_Put, si_Rel, si_App, ai_ow, si_AsgO, si_Par, is_Dict, is_Attr, ti_obj, is_Make, is_Meth, mi_obj, is_LenO, ni_obj, ni_tup, ni_lst, is_EqO, ei_obj, ei_tup, ei_lst, ei_int, is_IxO, xi_obj, xi_tup, xi_lst, si_SetA, ui_ob, is_Lc2, is_fnF, is_fnI, bi_t, bi_f, oi_some, List.getElem?_cons_zero, List.getElem?_cons_succ, List.set_cons_zero, List.set_cons_succ, List.length_cons, List.length_nil, Nat.reduceAdd, Nat.reduceLeDiff, true_and, and_true, lk_self, tg_name, tg_tup, tg_cons, tg_nil, Option.bind_some, List.cons_append, List.nil_append, setE_nil, setE_cons, wipe_nil, wipe_cons, setS_nil, setS_cons, add_int, sub_int, neg_int, lt_int, le_int, gt_int, ge_int, not_bl, dEq_int, dNe_int, pow6, pow7, pow8, pow9, pow10, pow18, int1, len_lst, len_tup, tuple_lst, list_tup, seq_lst, seq_tup, seq_scr, enum_lst, enum_tup, min_int, max_int]
  rw [mod_int (by omega), oi_some, add_int, oi_some]
  have q0 := Int.emod_nonneg (r * 1000000 + r') (show hi - lo + 1 ≠ 0 by omega)
  have q1 := Int.emod_lt_of_pos (r * 1000000 + r') (show 0 < hi - lo + 1 by omega)
  exact k _ _ (by omega) (by omega) m2
end LW
set_option Elab.async false
set_option linter.all false
set_option maxRecDepth 100000
set_option maxHeartbeats 2000000
namespace GP
open PySem GI
section
variable {α β : Type} {env : GI.Env} {st : Sto} {D : SP} {RL : List Dat → Sto → Prop} {fc fe : Ev} {fi1 : EvL} {fc1 : Ev} {t t1 : Tg} {f : Exe} {E : XP}
/-- a loop over a typed list, by an invariant over what is left -/
theorem for_T {enc : α → Dat} {xs : List α} (Inv : List α → GI.Env → Sto → Prop) (hi : ∀ x r env st, (x :: r) <:+ xs → Inv (x :: r) env st → oI (t (enc x)) fun bs => sI (f (setE env bs) st) { D with nx := Inv r, ct := Inv r, bk := D.nx })
    (he : ∀ env st, Inv [] env st → D.nx env st) (h : Inv xs env st) : sI (sForL t f (xs.map enc) env st) D := by
  refine for_inv (fun ds env st => ∃ r, ds = r.map enc ∧ r <:+ xs ∧ Inv r env st) (fun d r env st ⟨q, e, hs, hq⟩ => ?_) (fun env st ⟨q, e, hs, hq⟩ => ?_) _ _ _ ⟨xs, rfl, List.suffix_refl _, h⟩
  · cases q with
    | nil => cases e
    | cons x q =>
      cases e
      refine (hi x q env st hs hq).mono fun bs z => z.mono (fun e st z => ⟨q, rfl, ?_, z⟩) (fun _ _ z => z) (fun _ _ z => z) (fun e st z => ⟨q, rfl, ?_, z⟩) fun _ _ _ _ z => z
      · exact List.IsSuffix.trans (List.suffix_cons x q) hs
      · exact List.IsSuffix.trans (List.suffix_cons x q) hs
  · cases q with
    | nil => exact he env st hq
    | cons x q => cases e
/-- a pure comprehension with a test -/
theorem lc_filterT {enc : α → Dat} (p : α → Bool) (g : α → Dat) : ∀ {xs : List α} {RL : List Dat → Sto → Prop}, (∀ x ∈ xs, oI (t (enc x)) fun bs => Is (fc (setE env bs) st) fun c st1 => (c = .bl (p x) ∧ st1 = st) ∧ (p x = true → Is (fe (setE env bs) st) fun y st2 => y = g x ∧ st2 = st)) →
    RL ((xs.filter p).map g) st → Is (lcL t fc fe env (xs.map enc) st) RL E
  | [], RL, _, h => h
  | x :: xs, RL, hx, h => by
    have q := hx x (by simp)
    show Is (lcL t fc fe env (enc x :: xs.map enc) st) RL E
    unfold lcL
    cases e : t (enc x) with
    | none => rw [e] at q; exact q.elim
    | some bs =>
      rw [e] at q
      have q : Is (fc (setE env bs) st) _ := q
      dsimp only
      obtain ⟨c, st1, ec, ⟨e1, e2⟩, q⟩ := q.ex
      rw [ec, e1, e2]
      cases hp : p x with
      | false =>
        rw [List.filter_cons_of_neg (by simp [hp])] at h
        exact lc_filterT p g (fun z hz => hx z (List.mem_cons_of_mem _ hz)) h
      | true =>
        obtain ⟨y, st2, ey, e3, e4⟩ := (q hp).ex
        dsimp only
        rw [ey, e3, e4]
        dsimp only
        rw [List.filter_cons_of_pos hp] at h
        exact is_bind.mpr (lc_filterT p g (fun z hz => hx z (List.mem_cons_of_mem _ hz)) h)
/-- a pure comprehension without a test -/
theorem lc_mapT {enc : α → Dat} (g : α → Dat) {xs : List α} {RL : List Dat → Sto → Prop} (hx : ∀ x ∈ xs, oI (t (enc x)) fun bs => Is (fe (setE env bs) st) fun y st2 => y = g x ∧ st2 = st) (h : RL (xs.map g) st) : Is (lcL t (sC (.bl true)) fe env (xs.map enc) st) RL E := by
  refine lc_filterT (fun _ => true) g (fun x m => (hx x m).mono fun bs z => ⟨⟨rfl, rfl⟩, fun _ => z⟩) ?_
  rw [List.filter_eq_self.mpr fun _ _ => rfl]
  exact h
theorem lc_map_iff (g : Dat → Dat) {ds : List Dat} {RL : List Dat → Sto → Prop} (hx : ∀ x ∈ ds, oI (t x) fun bs => Is (fe (setE env bs) st) fun y st2 => y = g x ∧ st2 = st) : Is (lcL t (sC (.bl true)) fe env ds st) RL E ↔ RL (ds.map g) st := by
  have h : Is (lcL t (sC (.bl true)) fe env (ds.map id) st) (fun zs st' => zs = ds.map g ∧ st' = st) noX := lc_mapT (enc := id) g hx ⟨rfl, rfl⟩
  rw [List.map_id] at h
  obtain ⟨zs, st', e, e1, e2⟩ := h.ex
  rw [e, e1, e2]
  exact Iff.rfl
/-- a comprehension that changes the store -/
theorem lc_stT {enc : α → Dat} {encB : β → Dat} (P : β → Prop) (M : Nat → Sto → Prop) (c L : Nat) : ∀ {xs : List α} {a : Nat} {st : Sto} {RL : List Dat → Sto → Prop}, (∀ x ∈ xs, ∀ a st, M a st → a + c ≤ L → oI (t (enc x)) fun bs => Is (fe (setE env bs) st) fun y st2 => (∃ z, y = encB z ∧ P z) ∧ M (a + c) st2) →
    M a st → a + xs.length * c ≤ L → (∀ (zs : List β) (st' : Sto), zs.length = xs.length → (∀ z ∈ zs, P z) → M (a + xs.length * c) st' → RL (zs.map encB) st') → Is (lcL t (sC (.bl true)) fe env (xs.map enc) st) RL E
  | [], a, st, RL, _, m, _, h => h [] st rfl (fun _ z => by cases z) (by simpa using m)
  | x :: xs, a, st, RL, hx, m, ha, h => by
    have e : (x :: xs).length * c = xs.length * c + c := by rw [List.length_cons, Nat.succ_mul]
    rw [e] at ha h
    have q := hx x (by simp) a st m (by omega)
    show Is (lcL t (sC (.bl true)) fe env (enc x :: xs.map enc) st) RL E
    unfold lcL
    cases e : t (enc x) with
    | none => rw [e] at q; exact q.elim
    | some bs =>
      rw [e] at q
      have q : Is (fe (setE env bs) st) _ := q
      obtain ⟨y, st2, ey, ⟨z, rfl, pz⟩, m2⟩ := q.ex
      show Is (match fe (setE env bs) st with | .ok y st2 => _ | _ => _) RL E
      rw [ey]
      refine is_bind.mpr (lc_stT P M c L (fun w hw => hx w (List.mem_cons_of_mem _ hw)) m2 (by omega) fun zs st' hl hz m3 => ?_)
      refine h (z :: zs) st' (by simp [hl]) (fun w hw => ?_) (by rw [show a + (xs.length * c + c) = a + c + xs.length * c from by omega]; exact m3)
      rcases List.mem_cons.mp hw with e | e
      · rw [e]; exact pz
      · exact hz w e
/-- two fors, pure -/
theorem lc2_mapT {enc : α → Dat} {encB : β → Dat} {vs1 : List Nat} (ys : α → List β) (g : α → β → Dat) : ∀ {xs : List α} {RL : List Dat → Sto → Prop}, (∀ x ∈ xs, oI (t (enc x)) fun bs => Is (fi1 (setE env bs) st) fun ds st2 => (ds = (ys x).map encB ∧ st2 = st) ∧
      ∀ y ∈ ys x, oI (t1 (encB y)) fun cs => Is (fe (setE (wipeE (setE env bs) vs1) cs) st) fun z st3 => z = g x y ∧ st3 = st) →
    RL (xs.flatMap fun x => (ys x).map (g x)) st → Is (lc2L t (sC (.bl true)) fi1 t1 (sC (.bl true)) fe vs1 env (xs.map enc) st) RL E
  | [], RL, _, h => h
  | x :: xs, RL, hx, h => by
    have q := hx x (by simp)
    show Is (lc2L t (sC (.bl true)) fi1 t1 (sC (.bl true)) fe vs1 env (enc x :: xs.map enc) st) RL E
    unfold lc2L
    cases e : t (enc x) with
    | none => rw [e] at q; exact q.elim
    | some bs =>
      rw [e] at q
      have q : Is (fi1 (setE env bs) st) _ := q
      obtain ⟨ds, st2, ey, ⟨e1, e2⟩, q⟩ := q.ex
      have hin : Is (lcL t1 (sC (.bl true)) fe (wipeE (setE env bs) vs1) ((ys x).map encB) st) (fun zs st3 => zs = (ys x).map (g x) ∧ st3 = st) noX := lc_mapT (g x) q ⟨rfl, rfl⟩
      obtain ⟨zs, st3, ez, e3, e4⟩ := hin.ex
      show Is (match fi1 (setE env bs) st with | .ok ds1 st2 => _ | _ => _) RL E
      rw [ey, e1, e2]
      dsimp only
      rw [ez, e3, e4]
      refine is_bind.mpr (lc2_mapT ys g (fun w hw => hx w (List.mem_cons_of_mem _ hw)) ?_)
      exact h
end
/-- a statement, then the rest, by what holds between -/
theorem si_cut {env : GI.Env} {st : Sto} {D : SP} {f g : Exe} (Inv : GI.Env → Sto → Prop) (h1 : sI (f env st) { D with nx := Inv }) (h2 : ∀ e s, Inv e s → sI (g e s) D) : sI (sSeq f g env st) D :=
  si_Seq.mpr (h1.mono h2 (fun _ _ z => z) (fun _ _ z => z) (fun _ _ z => z) fun _ _ _ _ z => z)
theorem rangeD_map (n : Nat) : rangeD 0 n = (List.range n).map fun (i : Nat) => Dat.int (i : Int) := by
  unfold rangeD
  simp
theorem enumD_map {α : Type} {enc : α → Dat} (xs : List α) : enumD (xs.map enc) = xs.zipIdx.map fun (p : α × Nat) => Dat.tup [.int (p.2 : Int), enc p.1] := by
  unfold enumD
  rw [List.zipIdx_map, List.map_map]
  rfl
end GP
set_option Elab.async false
set_option linter.all false
set_option maxRecDepth 100000
set_option maxHeartbeats 2000000
namespace LW
open PySem GI GP
theorem cut63 {ds : List Dat} (h : ds.length ≤ 63) : cutD ds none (some 63) = ds := by
  unfold cutD HT.sIx
  simp
  exact List.take_of_length_le (by omega)
theorem begun_spec {ns : List Int} {R : Dat → Sto → Prop} {E : XP} (hl : ns.length ≤ 63) (k : ∀ st, Mst 0 [] st → R (.loc 0) st) : Is (F_l_begun [.scr (ns.map Dat.int)] []) R E := by
  unfold F_l_begun b_l_begun_den
  simp only [is_2, is_1, is_Isi, is_B, is_Cons, is_Nil, is_Get, is_Var, vi_sh, is_C, is_Tup, is_Lst, is_Ite, is_And, is_Or, is_Call, is_Seq', is_L, is_Sl, pi_none, pi_some, ex_int, is_Chain, is_Lc, is_few, is_slNil, is_slSh, is_slOw, si_nx, si_rt, si_Seq, si_Skip, si_Break, si_Cont, si_RetN, si_Asg, si_Ret, si_Do, si_If, si_For, si_AsgT, si_Put, si_Rel, si_App, ai_ow, si_AsgO, si_Par, is_Dict, is_Attr, ti_obj, is_Make, is_Meth, mi_obj, is_LenO, ni_obj, ni_tup, ni_lst, is_EqO, ei_obj, ei_tup, ei_lst, ei_int, is_IxO, xi_obj, xi_tup, xi_lst, si_SetA, ui_ob, is_Lc2, is_fnF, is_fnI, bi_t, bi_f, oi_some, List.getElem?_cons_zero, List.getElem?_cons_succ, List.set_cons_zero, List.set_cons_succ, List.length_cons, List.length_nil, Nat.reduceAdd, Nat.reduceLeDiff, true_and, and_true, lk_self, tg_name, tg_tup, tg_cons, tg_nil, Option.bind_some, List.cons_append, List.nil_append, setE_nil, setE_cons, wipe_nil, wipe_cons, setS_nil, setS_cons, add_int, sub_int, neg_int, lt_int, le_int, gt_int, ge_int, not_bl, dEq_int, dNe_int, pow6, pow7, pow8, pow9, pow10, pow18, int1, len_lst, len_tup, tuple_lst, list_tup, seq_lst, seq_tup, seq_scr, enum_lst, enum_tup, min_int, max_int, ev_1_1, ev_1_2, ev_2_2, ev_1_3, ev_2_3, ev_3_3, ev_1_4, ev_2_4, ev_3_4, ev_4_4, ev_1_5, ev_2_5, ev_3_5, ev_4_5, ev_5_5, ev_1_6, ev_2_6, ev_3_6, ev_4_6, ev_5_6, ev_6_6, ev_1_7, ev_2_7, ev_3_7, ev_4_7, ev_5_7, ev_6_7, ev_7_7, ev_1_8, ev_2_8, ev_3_8, ev_4_8, ev_5_8, ev_6_8, ev_7_8, ev_8_8, ev_1_9, ev_2_9, ev_3_9, ev_4_9, ev_5_9, ev_6_9, ev_7_9, ev_8_9, ev_1_10, ev_2_10, ev_3_10, ev_4_10, ev_5_10, ev_6_10, ev_7_10, ev_8_10, ev_1_11, ev_2_11, ev_3_11, ev_4_11, ev_5_11, ev_6_11, ev_7_11, ev_8_11, ev_1_12, ev_2_12, ev_3_12, ev_4_12, ev_5_12, ev_6_12, ev_7_12, ev_8_12, ev_1_13, ev_2_13, ev_3_13, ev_4_13, ev_5_13, ev_6_13, ev_7_13, ev_8_13, ev_1_14, ev_2_14, ev_3_14, ev_4_14, ev_5_14, ev_6_14, ev_7_14, ev_8_14, ev_1_15, ev_2_15, ev_3_15, ev_4_15, ev_5_15, ev_6_15, ev_7_15, ev_8_15, ev_1_16, ev_2_16, ev_3_16, ev_4_16, ev_5_16, ev_6_16, ev_7_16, ev_8_16, ev_1_17, ev_2_17, ev_3_17, ev_4_17, ev_5_17, ev_6_17, ev_7_17, ev_8_17, ev_1_18, ev_2_18, ev_3_18, ev_4_18, ev_5_18, ev_6_18, ev_7_18, ev_8_18, ev_1_19, ev_2_19, ev_3_19, ev_4_19, ev_5_19, ev_6_19, ev_7_19, ev_8_19, ev_1_20, ev_2_20, ev_3_20, ev_4_20, ev_5_20, ev_6_20, ev_7_20, ev_8_20, ev_1_21, ev_2_21, ev_3_21, ev_4_21, ev_5_21, ev_6_21, ev_7_21, ev_8_21, dSl, cut63 (show (ns.map Dat.int).length ≤ 63 by simpa using hl)]
  rw [enumD_map]
  refine for_T (fun _ env st => st = [] ∧ ∃ t e2 e3, env = [some (.sh (.scr (ns.map Dat.int))), some (.sh (.int t)), e2, e3] ∧ 0 ≤ t ∧ t < 2147483647) ?_ ?_ ⟨rfl, 17, none, none, rfl, by decide, by decide⟩
  · rintro ⟨x, i⟩ r env st _ ⟨rfl, t, e2, e3, rfl, h0, h1⟩
    simp (disch := decide) only [is_2, is_1, is_Isi, is_B, is_Cons, is_Nil, is_Get, is_Var, vi_sh, is_C, is_Tup, is_Lst, is_Ite, is_And, is_Or, is_Call, is_Seq', is_L, is_Sl, pi_none, pi_some, ex_int, is_Chain, is_Lc, is_few, is_slNil, is_slSh, is_slOw, si_nx, si_rt, si_Seq, si_Skip, si_Break, si_Cont, si_RetN, si_Asg, si_Ret, si_Do, si_If, si_For, si_AsgT, si_Put, si_Rel, si_App, ai_ow, si_AsgO, si_Par, is_Dict, is_Attr, ti_obj, is_Make, is_Meth, mi_obj, is_LenO, ni_obj, ni_tup, ni_lst, is_EqO, ei_obj, ei_tup, ei_lst, ei_int, is_IxO, xi_obj, xi_tup, xi_lst, si_SetA, ui_ob, is_Lc2, is_fnF, is_fnI, bi_t, bi_f, oi_some, List.getElem?_cons_zero, List.getElem?_cons_succ, List.set_cons_zero, List.set_cons_succ, List.length_cons, List.length_nil, Nat.reduceAdd, Nat.reduceLeDiff, true_and, and_true, lk_self, tg_name, tg_tup, tg_cons, tg_nil, Option.bind_some, List.cons_append, List.nil_append, setE_nil, setE_cons, wipe_nil, wipe_cons, setS_nil, setS_cons, add_int, sub_int, neg_int, lt_int, le_int, gt_int, ge_int, not_bl, dEq_int, dNe_int, pow6, pow7, pow8, pow9, pow10, pow18, int1, len_lst, len_tup, tuple_lst, list_tup, seq_lst, seq_tup, seq_scr, enum_lst, enum_tup, min_int, max_int, mod_int, mul_r, mul_l]
    exact ⟨_, _, _, rfl, Int.emod_nonneg _ (by decide), Int.emod_lt_of_pos _ (by decide)⟩
  · rintro env st ⟨rfl, t, e2, e3, rfl, h0, h1⟩
    simp only [is_2, is_1, is_Isi, is_B, is_Cons, is_Nil, is_Get, is_Var, vi_sh, is_C, is_Tup, is_Lst, is_Ite, is_And, is_Or, is_Call, is_Seq', is_L, is_Sl, pi_none, pi_some, ex_int, is_Chain, is_Lc, is_few, is_slNil, is_slSh, is_slOw, si_nx, si_rt, si_Seq, si_Skip, si_Break, si_Cont, si_RetN, si_Asg, si_Ret, si_Do, si_If, si_For, si_AsgT, si_Put, si_Rel, si_App, ai_ow, si_AsgO, si_Par, is_Dict, is_Attr, ti_obj, is_Make, is_Meth, mi_obj, is_LenO, ni_obj, ni_tup, ni_lst, is_EqO, ei_obj, ei_tup, ei_lst, ei_int, is_IxO, xi_obj, xi_tup, xi_lst, si_SetA, ui_ob, is_Lc2, is_fnF, is_fnI, bi_t, bi_f, oi_some, List.getElem?_cons_zero, List.getElem?_cons_succ, List.set_cons_zero, List.set_cons_succ, List.length_cons, List.length_nil, Nat.reduceAdd, Nat.reduceLeDiff, true_and, and_true, lk_self, tg_name, tg_tup, tg_cons, tg_nil, Option.bind_some, List.cons_append, List.nil_append, setE_nil, setE_cons, wipe_nil, wipe_cons, setS_nil, setS_cons, add_int, sub_int, neg_int, lt_int, le_int, gt_int, ge_int, not_bl, dEq_int, dNe_int, pow6, pow7, pow8, pow9, pow10, pow18, int1, len_lst, len_tup, tuple_lst, list_tup, seq_lst, seq_tup, seq_scr, enum_lst, enum_tup, min_int, max_int, List.length_map]
    refine ⟨by omega, lc_filterT (fun x => decide (1000000000000000000 ≤ x)) Dat.int (fun x _ => ?_) ?_⟩
    · simp only [is_2, is_1, is_Isi, is_B, is_Cons, is_Nil, is_Get, is_Var, vi_sh, is_C, is_Tup, is_Lst, is_Ite, is_And, is_Or, is_Call, is_Seq', is_L, is_Sl, pi_none, pi_some, ex_int, is_Chain, is_Lc, is_few, is_slNil, is_slSh, is_slOw, si_nx, si_rt, si_Seq, si_Skip, si_Break, si_Cont, si_RetN, si_Asg, si_Ret, si_Do, si_If, si_For, si_AsgT, si_Put, si_Rel, si_App, ai_ow, si_AsgO, si_Par, is_Dict, is_Attr, ti_obj, is_Make, is_Meth, mi_obj, is_LenO, ni_obj, ni_tup, ni_lst, is_EqO, ei_obj, ei_tup, ei_lst, ei_int, is_IxO, xi_obj, xi_tup, xi_lst, si_SetA, ui_ob, is_Lc2, is_fnF, is_fnI, bi_t, bi_f, oi_some, List.getElem?_cons_zero, List.getElem?_cons_succ, List.set_cons_zero, List.set_cons_succ, List.length_cons, List.length_nil, Nat.reduceAdd, Nat.reduceLeDiff, true_and, and_true, lk_self, tg_name, tg_tup, tg_cons, tg_nil, Option.bind_some, List.cons_append, List.nil_append, setE_nil, setE_cons, wipe_nil, wipe_cons, setS_nil, setS_cons, add_int, sub_int, neg_int, lt_int, le_int, gt_int, ge_int, not_bl, dEq_int, dNe_int, pow6, pow7, pow8, pow9, pow10, pow18, int1, len_lst, len_tup, tuple_lst, list_tup, seq_lst, seq_tup, seq_scr, enum_lst, enum_tup, min_int, max_int]
      simp
    · simp only [is_2, is_1, is_Isi, is_B, is_Cons, is_Nil, is_Get, is_Var, vi_sh, is_C, is_Tup, is_Lst, is_Ite, is_And, is_Or, is_Call, is_Seq', is_L, is_Sl, pi_none, pi_some, ex_int, is_Chain, is_Lc, is_few, is_slNil, is_slSh, is_slOw, si_nx, si_rt, si_Seq, si_Skip, si_Break, si_Cont, si_RetN, si_Asg, si_Ret, si_Do, si_If, si_For, si_AsgT, si_Put, si_Rel, si_App, ai_ow, si_AsgO, si_Par, is_Dict, is_Attr, ti_obj, is_Make, is_Meth, mi_obj, is_LenO, ni_obj, ni_tup, ni_lst, is_EqO, ei_obj, ei_tup, ei_lst, ei_int, is_IxO, xi_obj, xi_tup, xi_lst, si_SetA, ui_ob, is_Lc2, is_fnF, is_fnI, bi_t, bi_f, oi_some, List.getElem?_cons_zero, List.getElem?_cons_succ, List.set_cons_zero, List.set_cons_succ, List.length_cons, List.length_nil, Nat.reduceAdd, Nat.reduceLeDiff, true_and, and_true, lk_self, tg_name, tg_tup, tg_cons, tg_nil, Option.bind_some, List.cons_append, List.nil_append, setE_nil, setE_cons, wipe_nil, wipe_cons, setS_nil, setS_cons, add_int, sub_int, neg_int, lt_int, le_int, gt_int, ge_int, not_bl, dEq_int, dNe_int, pow6, pow7, pow8, pow9, pow10, pow18, int1, len_lst, len_tup, tuple_lst, list_tup, seq_lst, seq_tup, seq_scr, enum_lst, enum_tup, min_int, max_int]
      refine k _ ⟨ns.filter (fun x => decide (1000000000000000000 ≤ x)), t, 0, rfl, by omega, fun g hg => ?_, Nat.le_trans (List.length_filter_le _ _) hl, h0, h1⟩
      have := of_decide_eq_true (List.mem_filter.mp hg).2
      omega
/-- stamps of a camera -/
def Stamps (ns : List Int) : Prop := ns.Pairwise (· ≤ ·) ∧ ∀ x ∈ ns, -1000000000 ≤ x ∧ x ≤ 1000000000
abbrev dStamps (ns : List Int) : Dat := .tup (ns.map Dat.int)
theorem stamps_spec {a n : Nat} {way : Int} {rest st : Sto} {R : Dat → Sto → Prop} {E : XP} (h : Mst a rest st) (hn : n ≤ 100) (ha : a + 202 ≤ 1000000000) (k : ∀ ns st', ns.length = n → Stamps ns → Mst (a + 202) rest st' → R (dStamps ns) st') : Is (F_l_stamps [.loc 0, .int (n : Int), .int way] st) R E := by
  have fin : ∀ {a' : Nat} {lo hi : Int} (ns : List Int) (st' : Sto), a' ≤ a + 202 → -1000000000 ≤ lo → hi ≤ 1000000000 → ns.length = (List.range n).length → (∀ x ∈ ns, lo ≤ x ∧ x ≤ hi) → Mst a' rest st' → oI (dSortI [.lst (ns.map Dat.int)]) fun x => oI (dTuple [x]) fun d => R d st' := fun ns st' ha' hlo hhi hl hx m => by
    rw [sort_ints, oi_some, tuple_lst, oi_some]
    refine k _ _ (by rw [srt_len, hl, List.length_range]) ⟨srt_sorted ns, fun x hx' => ?_⟩ (m.mono ha')
    have := hx x (srt_mem.mp hx')
    omega
  unfold F_l_stamps b_l_stamps_den
  simp only [is_2, is_1, is_Isi, is_B, is_Cons, is_Nil, is_Get, is_Var, vi_sh, is_C, is_Tup, is_Lst, is_Ite, is_And, is_Or, is_Call, is_Seq', is_L, is_Sl, pi_none, pi_some, ex_int, is_Chain, is_Lc, is_few, is_slNil, is_slSh, is_slOw, si_nx, si_rt, si_Seq, si_Skip, si_Break, si_Cont, si_RetN, si_Asg, si_Ret, si_Do, si_If, si_For, si_AsgT, si_Put, si_Rel, si_App, ai_ow, si_AsgO, si_Par, is_Dict, is_Attr, ti_obj, is_Make, is_Meth, mi_obj, is_LenO, ni_obj, ni_tup, ni_lst, is_EqO, ei_obj, ei_tup, ei_lst, ei_int, is_IxO, xi_obj, xi_tup, xi_lst, si_SetA, ui_ob, is_Lc2, is_fnF, is_fnI, bi_t, bi_f, oi_some, List.getElem?_cons_zero, List.getElem?_cons_succ, List.set_cons_zero, List.set_cons_succ, List.length_cons, List.length_nil, Nat.reduceAdd, Nat.reduceLeDiff, true_and, and_true, lk_self, tg_name, tg_tup, tg_cons, tg_nil, Option.bind_some, List.cons_append, List.nil_append, setE_nil, setE_cons, wipe_nil, wipe_cons, setS_nil, setS_cons, add_int, sub_int, neg_int, lt_int, le_int, gt_int, ge_int, not_bl, dEq_int, dNe_int, pow6, pow7, pow8, pow9, pow10, pow18, int1, len_lst, len_tup, tuple_lst, list_tup, seq_lst, seq_tup, seq_scr, enum_lst, enum_tup, min_int, max_int, ev_1_1, ev_1_2, ev_2_2, ev_1_3, ev_2_3, ev_3_3, ev_1_4, ev_2_4, ev_3_4, ev_4_4, ev_1_5, ev_2_5, ev_3_5, ev_4_5, ev_5_5, ev_1_6, ev_2_6, ev_3_6, ev_4_6, ev_5_6, ev_6_6, ev_1_7, ev_2_7, ev_3_7, ev_4_7, ev_5_7, ev_6_7, ev_7_7, ev_1_8, ev_2_8, ev_3_8, ev_4_8, ev_5_8, ev_6_8, ev_7_8, ev_8_8, ev_1_9, ev_2_9, ev_3_9, ev_4_9, ev_5_9, ev_6_9, ev_7_9, ev_8_9, ev_1_10, ev_2_10, ev_3_10, ev_4_10, ev_5_10, ev_6_10, ev_7_10, ev_8_10, ev_1_11, ev_2_11, ev_3_11, ev_4_11, ev_5_11, ev_6_11, ev_7_11, ev_8_11, ev_1_12, ev_2_12, ev_3_12, ev_4_12, ev_5_12, ev_6_12, ev_7_12, ev_8_12, ev_1_13, ev_2_13, ev_3_13, ev_4_13, ev_5_13, ev_6_13, ev_7_13, ev_8_13, ev_1_14, ev_2_14, ev_3_14, ev_4_14, ev_5_14, ev_6_14, ev_7_14, ev_8_14, ev_1_15, ev_2_15, ev_3_15, ev_4_15, ev_5_15, ev_6_15, ev_7_15, ev_8_15, ev_1_16, ev_2_16, ev_3_16, ev_4_16, ev_5_16, ev_6_16, ev_7_16, ev_8_16, ev_1_17, ev_2_17, ev_3_17, ev_4_17, ev_5_17, ev_6_17, ev_7_17, ev_8_17, ev_1_18, ev_2_18, ev_3_18, ev_4_18, ev_5_18, ev_6_18, ev_7_18, ev_8_18, ev_1_19, ev_2_19, ev_3_19, ev_4_19, ev_5_19, ev_6_19, ev_7_19, ev_8_19, ev_1_20, ev_2_20, ev_3_20, ev_4_20, ev_5_20, ev_6_20, ev_7_20, ev_8_20, ev_1_21, ev_2_21, ev_3_21, ev_4_21, ev_5_21, ev_6_21, ev_7_21, ev_8_21, range_nat (show n ≤ 1000000 by omega), bi_dec, rangeD_map, List.length_map, List.length_range]
  refine ⟨fun _ => ⟨by omega, ?_⟩, fun _ => ⟨fun _ => ⟨by omega, ?_⟩, fun _ => ⟨fun _ => ⟨by omega, ?_⟩, fun _ => ?_⟩⟩⟩
  · refine lc_stT (encB := Dat.int) (fun r : Int => 0 ≤ r ∧ r ≤ 12) (fun a st => Mst a rest st) 1 1000000000 (fun x _ a st m hb => ?_) h (by simp; omega) fun ns st' hl hx m => fin ns st' (by simp; omega) (by omega) (by omega) hl hx m
    simp only [is_2, is_1, is_Isi, is_B, is_Cons, is_Nil, is_Get, is_Var, vi_sh, is_C, is_Tup, is_Lst, is_Ite, is_And, is_Or, is_Call, is_Seq', is_L, is_Sl, pi_none, pi_some, ex_int, is_Chain, is_Lc, is_few, is_slNil, is_slSh, is_slOw, si_nx, si_rt, si_Seq, si_Skip, si_Break, si_Cont, si_RetN, si_Asg, si_Ret, si_Do, si_If, si_For, si_AsgT, si_Put, si_Rel, si_App, ai_ow, si_AsgO, si_Par, is_Dict, is_Attr, ti_obj, is_Make, is_Meth, mi_obj, is_LenO, ni_obj, ni_tup, ni_lst, is_EqO, ei_obj, ei_tup, ei_lst, ei_int, is_IxO, xi_obj, xi_tup, xi_lst, si_SetA, ui_ob, is_Lc2, is_fnF, is_fnI, bi_t, bi_f, oi_some, List.getElem?_cons_zero, List.getElem?_cons_succ, List.set_cons_zero, List.set_cons_succ, List.length_cons, List.length_nil, Nat.reduceAdd, Nat.reduceLeDiff, true_and, and_true, lk_self, tg_name, tg_tup, tg_cons, tg_nil, Option.bind_some, List.cons_append, List.nil_append, setE_nil, setE_cons, wipe_nil, wipe_cons, setS_nil, setS_cons, add_int, sub_int, neg_int, lt_int, le_int, gt_int, ge_int, not_bl, dEq_int, dNe_int, pow6, pow7, pow8, pow9, pow10, pow18, int1, len_lst, len_tup, tuple_lst, list_tup, seq_lst, seq_tup, seq_scr, enum_lst, enum_tup, min_int, max_int]
    exact draw_spec m (by omega) (by decide) (by decide) fun r st1 h0 h1 m1 => ⟨⟨r, rfl, by omega, by omega⟩, m1⟩
  · refine lc_stT (encB := Dat.int) (fun r : Int => -30 ≤ r ∧ r ≤ 1000) (fun a st => Mst a rest st) 2 1000000000 (fun x _ a st m hb => ?_) h (by simp; omega) fun ns st' hl hx m => fin ns st' (by simp; omega) (by omega) (by omega) hl hx m
    simp only [is_2, is_1, is_Isi, is_B, is_Cons, is_Nil, is_Get, is_Var, vi_sh, is_C, is_Tup, is_Lst, is_Ite, is_And, is_Or, is_Call, is_Seq', is_L, is_Sl, pi_none, pi_some, ex_int, is_Chain, is_Lc, is_few, is_slNil, is_slSh, is_slOw, si_nx, si_rt, si_Seq, si_Skip, si_Break, si_Cont, si_RetN, si_Asg, si_Ret, si_Do, si_If, si_For, si_AsgT, si_Put, si_Rel, si_App, ai_ow, si_AsgO, si_Par, is_Dict, is_Attr, ti_obj, is_Make, is_Meth, mi_obj, is_LenO, ni_obj, ni_tup, ni_lst, is_EqO, ei_obj, ei_tup, ei_lst, ei_int, is_IxO, xi_obj, xi_tup, xi_lst, si_SetA, ui_ob, is_Lc2, is_fnF, is_fnI, bi_t, bi_f, oi_some, List.getElem?_cons_zero, List.getElem?_cons_succ, List.set_cons_zero, List.set_cons_succ, List.length_cons, List.length_nil, Nat.reduceAdd, Nat.reduceLeDiff, true_and, and_true, lk_self, tg_name, tg_tup, tg_cons, tg_nil, Option.bind_some, List.cons_append, List.nil_append, setE_nil, setE_cons, wipe_nil, wipe_cons, setS_nil, setS_cons, add_int, sub_int, neg_int, lt_int, le_int, gt_int, ge_int, not_bl, dEq_int, dNe_int, pow6, pow7, pow8, pow9, pow10, pow18, int1, len_lst, len_tup, tuple_lst, list_tup, seq_lst, seq_tup, seq_scr, enum_lst, enum_tup, min_int, max_int]
    refine draw_spec m (by omega) (by decide) (by decide) fun r st1 h0 h1 m1 => ?_
    simp (disch := decide) only [is_2, is_1, is_Isi, is_B, is_Cons, is_Nil, is_Get, is_Var, vi_sh, is_C, is_Tup, is_Lst, is_Ite, is_And, is_Or, is_Call, is_Seq', is_L, is_Sl, pi_none, pi_some, ex_int, is_Chain, is_Lc, is_few, is_slNil, is_slSh, is_slOw, si_nx, si_rt, si_Seq, si_Skip, si_Break, si_Cont, si_RetN, si_Asg, si_Ret, si_Do, si_If, si_For, si_AsgT, si_Put, si_Rel, si_App, ai_ow, si_AsgO, si_Par, is_Dict, is_Attr, ti_obj, is_Make, is_Meth, mi_obj, is_LenO, ni_obj, ni_tup, ni_lst, is_EqO, ei_obj, ei_tup, ei_lst, ei_int, is_IxO, xi_obj, xi_tup, xi_lst, si_SetA, ui_ob, is_Lc2, is_fnF, is_fnI, bi_t, bi_f, oi_some, List.getElem?_cons_zero, List.getElem?_cons_succ, List.set_cons_zero, List.set_cons_succ, List.length_cons, List.length_nil, Nat.reduceAdd, Nat.reduceLeDiff, true_and, and_true, lk_self, tg_name, tg_tup, tg_cons, tg_nil, Option.bind_some, List.cons_append, List.nil_append, setE_nil, setE_cons, wipe_nil, wipe_cons, setS_nil, setS_cons, add_int, sub_int, neg_int, lt_int, le_int, gt_int, ge_int, not_bl, dEq_int, dNe_int, pow6, pow7, pow8, pow9, pow10, pow18, int1, len_lst, len_tup, tuple_lst, list_tup, seq_lst, seq_tup, seq_scr, enum_lst, enum_tup, min_int, max_int, mul_r]
    exact draw_spec m1 (by omega) (by decide) (by decide) fun r2 st2 h20 h21 m2 => ⟨⟨_, rfl, by omega, by omega⟩, m2⟩
  · refine lc_stT (encB := Dat.int) (fun r : Int => -1000000000 ≤ r ∧ r ≤ 1000000000) (fun a st => Mst a rest st) 2 1000000000 (fun x _ a st m hb => ?_) h (by simp; omega) fun ns st' hl hx m => fin ns st' (by simp; omega) (by omega) (by omega) hl hx m
    simp only [is_2, is_1, is_Isi, is_B, is_Cons, is_Nil, is_Get, is_Var, vi_sh, is_C, is_Tup, is_Lst, is_Ite, is_And, is_Or, is_Call, is_Seq', is_L, is_Sl, pi_none, pi_some, ex_int, is_Chain, is_Lc, is_few, is_slNil, is_slSh, is_slOw, si_nx, si_rt, si_Seq, si_Skip, si_Break, si_Cont, si_RetN, si_Asg, si_Ret, si_Do, si_If, si_For, si_AsgT, si_Put, si_Rel, si_App, ai_ow, si_AsgO, si_Par, is_Dict, is_Attr, ti_obj, is_Make, is_Meth, mi_obj, is_LenO, ni_obj, ni_tup, ni_lst, is_EqO, ei_obj, ei_tup, ei_lst, ei_int, is_IxO, xi_obj, xi_tup, xi_lst, si_SetA, ui_ob, is_Lc2, is_fnF, is_fnI, bi_t, bi_f, oi_some, List.getElem?_cons_zero, List.getElem?_cons_succ, List.set_cons_zero, List.set_cons_succ, List.length_cons, List.length_nil, Nat.reduceAdd, Nat.reduceLeDiff, true_and, and_true, lk_self, tg_name, tg_tup, tg_cons, tg_nil, Option.bind_some, List.cons_append, List.nil_append, setE_nil, setE_cons, wipe_nil, wipe_cons, setS_nil, setS_cons, add_int, sub_int, neg_int, lt_int, le_int, gt_int, ge_int, not_bl, dEq_int, dNe_int, pow6, pow7, pow8, pow9, pow10, pow18, int1, len_lst, len_tup, tuple_lst, list_tup, seq_lst, seq_tup, seq_scr, enum_lst, enum_tup, min_int, max_int]
    exact wide_spec m (by omega) (by decide) fun r st1 h0 h1 m1 => ⟨⟨r, rfl, by omega, by omega⟩, m1⟩
  · simp (disch := decide) only [is_2, is_1, is_Isi, is_B, is_Cons, is_Nil, is_Get, is_Var, vi_sh, is_C, is_Tup, is_Lst, is_Ite, is_And, is_Or, is_Call, is_Seq', is_L, is_Sl, pi_none, pi_some, ex_int, is_Chain, is_Lc, is_few, is_slNil, is_slSh, is_slOw, si_nx, si_rt, si_Seq, si_Skip, si_Break, si_Cont, si_RetN, si_Asg, si_Ret, si_Do, si_If, si_For, si_AsgT, si_Put, si_Rel, si_App, ai_ow, si_AsgO, si_Par, is_Dict, is_Attr, ti_obj, is_Make, is_Meth, mi_obj, is_LenO, ni_obj, ni_tup, ni_lst, is_EqO, ei_obj, ei_tup, ei_lst, ei_int, is_IxO, xi_obj, xi_tup, xi_lst, si_SetA, ui_ob, is_Lc2, is_fnF, is_fnI, bi_t, bi_f, oi_some, List.getElem?_cons_zero, List.getElem?_cons_succ, List.set_cons_zero, List.set_cons_succ, List.length_cons, List.length_nil, Nat.reduceAdd, Nat.reduceLeDiff, true_and, and_true, lk_self, tg_name, tg_tup, tg_cons, tg_nil, Option.bind_some, List.cons_append, List.nil_append, setE_nil, setE_cons, wipe_nil, wipe_cons, setS_nil, setS_cons, add_int, sub_int, neg_int, lt_int, le_int, gt_int, ge_int, not_bl, dEq_int, dNe_int, pow6, pow7, pow8, pow9, pow10, pow18, int1, len_lst, len_tup, tuple_lst, list_tup, seq_lst, seq_tup, seq_scr, enum_lst, enum_tup, min_int, max_int, mul_r]
    refine wide_spec h (by omega) (by decide) fun b st1 hb0 hb1 m1 => ⟨by omega, ?_⟩
    refine lc_stT (encB := Dat.int) (fun r : Int => -1000000000 ≤ r ∧ r ≤ 1000000000) (fun a st => Mst a rest st) 1 1000000000 (fun x _ a st m hb => ?_) m1 (by simp; omega) fun ns st' hl hx m => fin ns st' (by simp; omega) (by omega) (by omega) hl hx m
    simp only [is_2, is_1, is_Isi, is_B, is_Cons, is_Nil, is_Get, is_Var, vi_sh, is_C, is_Tup, is_Lst, is_Ite, is_And, is_Or, is_Call, is_Seq', is_L, is_Sl, pi_none, pi_some, ex_int, is_Chain, is_Lc, is_few, is_slNil, is_slSh, is_slOw, si_nx, si_rt, si_Seq, si_Skip, si_Break, si_Cont, si_RetN, si_Asg, si_Ret, si_Do, si_If, si_For, si_AsgT, si_Put, si_Rel, si_App, ai_ow, si_AsgO, si_Par, is_Dict, is_Attr, ti_obj, is_Make, is_Meth, mi_obj, is_LenO, ni_obj, ni_tup, ni_lst, is_EqO, ei_obj, ei_tup, ei_lst, ei_int, is_IxO, xi_obj, xi_tup, xi_lst, si_SetA, ui_ob, is_Lc2, is_fnF, is_fnI, bi_t, bi_f, oi_some, List.getElem?_cons_zero, List.getElem?_cons_succ, List.set_cons_zero, List.set_cons_succ, List.length_cons, List.length_nil, Nat.reduceAdd, Nat.reduceLeDiff, true_and, and_true, lk_self, tg_name, tg_tup, tg_cons, tg_nil, Option.bind_some, List.cons_append, List.nil_append, setE_nil, setE_cons, wipe_nil, wipe_cons, setS_nil, setS_cons, add_int, sub_int, neg_int, lt_int, le_int, gt_int, ge_int, not_bl, dEq_int, dNe_int, pow6, pow7, pow8, pow9, pow10, pow18, int1, len_lst, len_tup, tuple_lst, list_tup, seq_lst, seq_tup, seq_scr, enum_lst, enum_tup, min_int, max_int]
    exact draw_spec m (by omega) (by decide) (by decide) fun r st1 h0 h1 m1 => ⟨⟨_, rfl, by omega, by omega⟩, m1⟩
end LW
set_option Elab.async false
set_option linter.all false
set_option maxRecDepth 100000
set_option maxHeartbeats 2000000
namespace LW
open PySem GI GP
abbrev Cams := List (List Int)
def dCams (cs : Cams) : Dat := .tup (cs.map dStamps)
abbrev dShot (s : Nat × Nat) : Dat := .tup [.int (s.1 : Int), .int (s.2 : Int)]
/-- how many shots -/
def total (cs : Cams) : Nat := (cs.map List.length).sum
theorem cameras_spec {a n : Nat} {most way : Int} {rest st : Sto} {R : Dat → Sto → Prop} {E : XP} (h : Mst a rest st) (hn : n ≤ 100) (h1 : 0 < most) (h2 : most ≤ 3) (ha : a + 613 ≤ 1000000000)
    (k : ∀ cs st', 1 ≤ cs.length → (cs.length : Int) ≤ most → (∀ ns ∈ cs, Stamps ns) → total cs ≤ n → Mst (a + 613) rest st' → R (dCams cs) st') : Is (F_l_cameras [.loc 0, .int most, .int (n : Int), .int way] st) R E := by
  unfold F_l_cameras b_l_cameras_den
  simp only [is_2, is_1, is_Isi, is_B, is_Cons, is_Nil, is_Get, is_Var, vi_sh, is_C, is_Tup, is_Lst, is_Ite, is_And, is_Or, is_Call, is_Seq', is_L, is_Sl, pi_none, pi_some, ex_int, is_Chain, is_Lc, is_few, is_slNil, is_slSh, is_slOw, si_nx, si_rt, si_Seq, si_Skip, si_Break, si_Cont, si_RetN, si_Asg, si_Ret, si_Do, si_If, si_For, si_AsgT, si_Put, si_Rel, si_App, ai_ow, si_AsgO, si_Par, is_Dict, is_Attr, ti_obj, is_Make, is_Meth, mi_obj, is_LenO, ni_obj, ni_tup, ni_lst, is_EqO, ei_obj, ei_tup, ei_lst, ei_int, is_IxO, xi_obj, xi_tup, xi_lst, si_SetA, ui_ob, is_Lc2, is_fnF, is_fnI, bi_t, bi_f, oi_some, List.getElem?_cons_zero, List.getElem?_cons_succ, List.set_cons_zero, List.set_cons_succ, List.length_cons, List.length_nil, Nat.reduceAdd, Nat.reduceLeDiff, true_and, and_true, lk_self, tg_name, tg_tup, tg_cons, tg_nil, Option.bind_some, List.cons_append, List.nil_append, setE_nil, setE_cons, wipe_nil, wipe_cons, setS_nil, setS_cons, add_int, sub_int, neg_int, lt_int, le_int, gt_int, ge_int, not_bl, dEq_int, dNe_int, pow6, pow7, pow8, pow9, pow10, pow18, int1, len_lst, len_tup, tuple_lst, list_tup, seq_lst, seq_tup, seq_scr, enum_lst, enum_tup, min_int, max_int, ev_1_1, ev_1_2, ev_2_2, ev_1_3, ev_2_3, ev_3_3, ev_1_4, ev_2_4, ev_3_4, ev_4_4, ev_1_5, ev_2_5, ev_3_5, ev_4_5, ev_5_5, ev_1_6, ev_2_6, ev_3_6, ev_4_6, ev_5_6, ev_6_6, ev_1_7, ev_2_7, ev_3_7, ev_4_7, ev_5_7, ev_6_7, ev_7_7, ev_1_8, ev_2_8, ev_3_8, ev_4_8, ev_5_8, ev_6_8, ev_7_8, ev_8_8, ev_1_9, ev_2_9, ev_3_9, ev_4_9, ev_5_9, ev_6_9, ev_7_9, ev_8_9, ev_1_10, ev_2_10, ev_3_10, ev_4_10, ev_5_10, ev_6_10, ev_7_10, ev_8_10, ev_1_11, ev_2_11, ev_3_11, ev_4_11, ev_5_11, ev_6_11, ev_7_11, ev_8_11, ev_1_12, ev_2_12, ev_3_12, ev_4_12, ev_5_12, ev_6_12, ev_7_12, ev_8_12, ev_1_13, ev_2_13, ev_3_13, ev_4_13, ev_5_13, ev_6_13, ev_7_13, ev_8_13, ev_1_14, ev_2_14, ev_3_14, ev_4_14, ev_5_14, ev_6_14, ev_7_14, ev_8_14, ev_1_15, ev_2_15, ev_3_15, ev_4_15, ev_5_15, ev_6_15, ev_7_15, ev_8_15, ev_1_16, ev_2_16, ev_3_16, ev_4_16, ev_5_16, ev_6_16, ev_7_16, ev_8_16, ev_1_17, ev_2_17, ev_3_17, ev_4_17, ev_5_17, ev_6_17, ev_7_17, ev_8_17, ev_1_18, ev_2_18, ev_3_18, ev_4_18, ev_5_18, ev_6_18, ev_7_18, ev_8_18, ev_1_19, ev_2_19, ev_3_19, ev_4_19, ev_5_19, ev_6_19, ev_7_19, ev_8_19, ev_1_20, ev_2_20, ev_3_20, ev_4_20, ev_5_20, ev_6_20, ev_7_20, ev_8_20, ev_1_21, ev_2_21, ev_3_21, ev_4_21, ev_5_21, ev_6_21, ev_7_21, ev_8_21]
  refine draw_spec h (by omega) h1 (by omega) fun q st1 q0 q1 m1 => ?_
  rw [add_int, oi_some, range_int (by omega) (by omega), oi_some, rangeD_map]
  refine for_T (fun r env st => ∃ cs l e4 e7, env = [some (.sh (.loc 0)), some (.sh (.int most)), some (.sh (.int (n : Int))), some (.sh (.int way)), e4, some (.ow (cs.map dStamps)), some (.sh (.int (l : Nat))), e7] ∧ cs.length + r.length = (1 + q).toNat ∧ (∀ ns ∈ cs, Stamps ns) ∧ total cs + l = n ∧ Mst (a + 1 + cs.length * 204) rest st) ?_ ?_ ⟨[], n, none, none, rfl, by simp, (fun _ z => by cases z), by simp [total], by simpa using m1⟩
  · rintro i r env st _ ⟨cs, l, e4, e7, rfl, hlen, hcs, htot, m⟩
    rw [List.length_cons] at hlen
    simp only [is_2, is_1, is_Isi, is_B, is_Cons, is_Nil, is_Get, is_Var, vi_sh, is_C, is_Tup, is_Lst, is_Ite, is_And, is_Or, is_Call, is_Seq', is_L, is_Sl, pi_none, pi_some, ex_int, is_Chain, is_Lc, is_few, is_slNil, is_slSh, is_slOw, si_nx, si_rt, si_Seq, si_Skip, si_Break, si_Cont, si_RetN, si_Asg, si_Ret, si_Do, si_If, si_For, si_AsgT, si_Put, si_Rel, si_App, ai_ow, si_AsgO, si_Par, is_Dict, is_Attr, ti_obj, is_Make, is_Meth, mi_obj, is_LenO, ni_obj, ni_tup, ni_lst, is_EqO, ei_obj, ei_tup, ei_lst, ei_int, is_IxO, xi_obj, xi_tup, xi_lst, si_SetA, ui_ob, is_Lc2, is_fnF, is_fnI, bi_t, bi_f, oi_some, List.getElem?_cons_zero, List.getElem?_cons_succ, List.set_cons_zero, List.set_cons_succ, List.length_cons, List.length_nil, Nat.reduceAdd, Nat.reduceLeDiff, true_and, and_true, lk_self, tg_name, tg_tup, tg_cons, tg_nil, Option.bind_some, List.cons_append, List.nil_append, setE_nil, setE_cons, wipe_nil, wipe_cons, setS_nil, setS_cons, add_int, sub_int, neg_int, lt_int, le_int, gt_int, ge_int, not_bl, dEq_int, dNe_int, pow6, pow7, pow8, pow9, pow10, pow18, int1, len_lst, len_tup, tuple_lst, list_tup, seq_lst, seq_tup, seq_scr, enum_lst, enum_tup, min_int, max_int]
    refine draw_spec m (by omega) (by decide) (by decide) fun p st2 p0 p1 m2 => ?_
    simp (disch := decide) only [is_2, is_1, is_Isi, is_B, is_Cons, is_Nil, is_Get, is_Var, vi_sh, is_C, is_Tup, is_Lst, is_Ite, is_And, is_Or, is_Call, is_Seq', is_L, is_Sl, pi_none, pi_some, ex_int, is_Chain, is_Lc, is_few, is_slNil, is_slSh, is_slOw, si_nx, si_rt, si_Seq, si_Skip, si_Break, si_Cont, si_RetN, si_Asg, si_Ret, si_Do, si_If, si_For, si_AsgT, si_Put, si_Rel, si_App, ai_ow, si_AsgO, si_Par, is_Dict, is_Attr, ti_obj, is_Make, is_Meth, mi_obj, is_LenO, ni_obj, ni_tup, ni_lst, is_EqO, ei_obj, ei_tup, ei_lst, ei_int, is_IxO, xi_obj, xi_tup, xi_lst, si_SetA, ui_ob, is_Lc2, is_fnF, is_fnI, bi_t, bi_f, oi_some, List.getElem?_cons_zero, List.getElem?_cons_succ, List.set_cons_zero, List.set_cons_succ, List.length_cons, List.length_nil, Nat.reduceAdd, Nat.reduceLeDiff, true_and, and_true, lk_self, tg_name, tg_tup, tg_cons, tg_nil, Option.bind_some, List.cons_append, List.nil_append, setE_nil, setE_cons, wipe_nil, wipe_cons, setS_nil, setS_cons, add_int, sub_int, neg_int, lt_int, le_int, gt_int, ge_int, not_bl, dEq_int, dNe_int, pow6, pow7, pow8, pow9, pow10, pow18, int1, len_lst, len_tup, tuple_lst, list_tup, seq_lst, seq_tup, seq_scr, enum_lst, enum_tup, min_int, max_int, fdiv_int]
    have e : ∃ t : Nat, t ≤ l ∧ dIx (.lst [.int (min (l : Int) 5), .int (l : Int)]) (.int (p / 2)) = some (.int (t : Int)) := by
      rcases (show p = 0 ∨ p = 1 ∨ p = 2 by omega) with rfl | rfl | rfl
      · exact ⟨min l 5, by omega, by show some (Dat.int (min (l : Int) 5)) = _; congr 2; omega⟩
      · exact ⟨min l 5, by omega, by show some (Dat.int (min (l : Int) 5)) = _; congr 2; omega⟩
      · exact ⟨l, by omega, rfl⟩
    obtain ⟨t, ht, e⟩ := e
    rw [e]
    simp only [is_2, is_1, is_Isi, is_B, is_Cons, is_Nil, is_Get, is_Var, vi_sh, is_C, is_Tup, is_Lst, is_Ite, is_And, is_Or, is_Call, is_Seq', is_L, is_Sl, pi_none, pi_some, ex_int, is_Chain, is_Lc, is_few, is_slNil, is_slSh, is_slOw, si_nx, si_rt, si_Seq, si_Skip, si_Break, si_Cont, si_RetN, si_Asg, si_Ret, si_Do, si_If, si_For, si_AsgT, si_Put, si_Rel, si_App, ai_ow, si_AsgO, si_Par, is_Dict, is_Attr, ti_obj, is_Make, is_Meth, mi_obj, is_LenO, ni_obj, ni_tup, ni_lst, is_EqO, ei_obj, ei_tup, ei_lst, ei_int, is_IxO, xi_obj, xi_tup, xi_lst, si_SetA, ui_ob, is_Lc2, is_fnF, is_fnI, bi_t, bi_f, oi_some, List.getElem?_cons_zero, List.getElem?_cons_succ, List.set_cons_zero, List.set_cons_succ, List.length_cons, List.length_nil, Nat.reduceAdd, Nat.reduceLeDiff, true_and, and_true, lk_self, tg_name, tg_tup, tg_cons, tg_nil, Option.bind_some, List.cons_append, List.nil_append, setE_nil, setE_cons, wipe_nil, wipe_cons, setS_nil, setS_cons, add_int, sub_int, neg_int, lt_int, le_int, gt_int, ge_int, not_bl, dEq_int, dNe_int, pow6, pow7, pow8, pow9, pow10, pow18, int1, len_lst, len_tup, tuple_lst, list_tup, seq_lst, seq_tup, seq_scr, enum_lst, enum_tup, min_int, max_int]
    refine draw_spec m2 (by omega) (by omega) (by omega) fun p st3 p0 p1 m3 => ?_
    obtain ⟨p, rfl⟩ := Int.eq_ofNat_of_zero_le p0
    simp only [is_2, is_1, is_Isi, is_B, is_Cons, is_Nil, is_Get, is_Var, vi_sh, is_C, is_Tup, is_Lst, is_Ite, is_And, is_Or, is_Call, is_Seq', is_L, is_Sl, pi_none, pi_some, ex_int, is_Chain, is_Lc, is_few, is_slNil, is_slSh, is_slOw, si_nx, si_rt, si_Seq, si_Skip, si_Break, si_Cont, si_RetN, si_Asg, si_Ret, si_Do, si_If, si_For, si_AsgT, si_Put, si_Rel, si_App, ai_ow, si_AsgO, si_Par, is_Dict, is_Attr, ti_obj, is_Make, is_Meth, mi_obj, is_LenO, ni_obj, ni_tup, ni_lst, is_EqO, ei_obj, ei_tup, ei_lst, ei_int, is_IxO, xi_obj, xi_tup, xi_lst, si_SetA, ui_ob, is_Lc2, is_fnF, is_fnI, bi_t, bi_f, oi_some, List.getElem?_cons_zero, List.getElem?_cons_succ, List.set_cons_zero, List.set_cons_succ, List.length_cons, List.length_nil, Nat.reduceAdd, Nat.reduceLeDiff, true_and, and_true, lk_self, tg_name, tg_tup, tg_cons, tg_nil, Option.bind_some, List.cons_append, List.nil_append, setE_nil, setE_cons, wipe_nil, wipe_cons, setS_nil, setS_cons, add_int, sub_int, neg_int, lt_int, le_int, gt_int, ge_int, not_bl, dEq_int, dNe_int, pow6, pow7, pow8, pow9, pow10, pow18, int1, len_lst, len_tup, tuple_lst, list_tup, seq_lst, seq_tup, seq_scr, enum_lst, enum_tup, min_int, max_int]
    refine stamps_spec m3 (by omega) (by omega) fun ns st4 hl hs m4 => ?_
    simp only [is_2, is_1, is_Isi, is_B, is_Cons, is_Nil, is_Get, is_Var, vi_sh, is_C, is_Tup, is_Lst, is_Ite, is_And, is_Or, is_Call, is_Seq', is_L, is_Sl, pi_none, pi_some, ex_int, is_Chain, is_Lc, is_few, is_slNil, is_slSh, is_slOw, si_nx, si_rt, si_Seq, si_Skip, si_Break, si_Cont, si_RetN, si_Asg, si_Ret, si_Do, si_If, si_For, si_AsgT, si_Put, si_Rel, si_App, ai_ow, si_AsgO, si_Par, is_Dict, is_Attr, ti_obj, is_Make, is_Meth, mi_obj, is_LenO, ni_obj, ni_tup, ni_lst, is_EqO, ei_obj, ei_tup, ei_lst, ei_int, is_IxO, xi_obj, xi_tup, xi_lst, si_SetA, ui_ob, is_Lc2, is_fnF, is_fnI, bi_t, bi_f, oi_some, List.getElem?_cons_zero, List.getElem?_cons_succ, List.set_cons_zero, List.set_cons_succ, List.length_cons, List.length_nil, Nat.reduceAdd, Nat.reduceLeDiff, true_and, and_true, lk_self, tg_name, tg_tup, tg_cons, tg_nil, Option.bind_some, List.cons_append, List.nil_append, setE_nil, setE_cons, wipe_nil, wipe_cons, setS_nil, setS_cons, add_int, sub_int, neg_int, lt_int, le_int, gt_int, ge_int, not_bl, dEq_int, dNe_int, pow6, pow7, pow8, pow9, pow10, pow18, int1, len_lst, len_tup, tuple_lst, list_tup, seq_lst, seq_tup, seq_scr, enum_lst, enum_tup, min_int, max_int, List.length_map]
    rw [show List.map dStamps cs ++ [dStamps ns] = (cs ++ [ns]).map dStamps by simp, show (l : Int) - (p : Int) = ((l - p : Nat) : Int) by omega]
    refine ⟨by omega, cs ++ [ns], l - p, _, _, rfl, by simp; omega, fun x hx => ?_, ?_, ?_⟩
    · rcases List.mem_append.mp hx with z | z
      · exact hcs x z
      · rw [List.mem_singleton.mp z]; exact hs
    · simp only [total, List.map_append, List.sum_append, List.map_cons, List.map_nil, List.sum_cons, List.sum_nil] at htot ⊢
      omega
    · refine m4.mono ?_
      simp
      omega
  · rintro env st ⟨cs, l, e4, e7, rfl, hlen, hcs, htot, m⟩
    rw [List.length_nil] at hlen
    simp only [is_2, is_1, is_Isi, is_B, is_Cons, is_Nil, is_Get, is_Var, vi_sh, is_C, is_Tup, is_Lst, is_Ite, is_And, is_Or, is_Call, is_Seq', is_L, is_Sl, pi_none, pi_some, ex_int, is_Chain, is_Lc, is_few, is_slNil, is_slSh, is_slOw, si_nx, si_rt, si_Seq, si_Skip, si_Break, si_Cont, si_RetN, si_Asg, si_Ret, si_Do, si_If, si_For, si_AsgT, si_Put, si_Rel, si_App, ai_ow, si_AsgO, si_Par, is_Dict, is_Attr, ti_obj, is_Make, is_Meth, mi_obj, is_LenO, ni_obj, ni_tup, ni_lst, is_EqO, ei_obj, ei_tup, ei_lst, ei_int, is_IxO, xi_obj, xi_tup, xi_lst, si_SetA, ui_ob, is_Lc2, is_fnF, is_fnI, bi_t, bi_f, oi_some, List.getElem?_cons_zero, List.getElem?_cons_succ, List.set_cons_zero, List.set_cons_succ, List.length_cons, List.length_nil, Nat.reduceAdd, Nat.reduceLeDiff, true_and, and_true, lk_self, tg_name, tg_tup, tg_cons, tg_nil, Option.bind_some, List.cons_append, List.nil_append, setE_nil, setE_cons, wipe_nil, wipe_cons, setS_nil, setS_cons, add_int, sub_int, neg_int, lt_int, le_int, gt_int, ge_int, not_bl, dEq_int, dNe_int, pow6, pow7, pow8, pow9, pow10, pow18, int1, len_lst, len_tup, tuple_lst, list_tup, seq_lst, seq_tup, seq_scr, enum_lst, enum_tup, min_int, max_int, relE]
    exact k cs st (by omega) (by omega) hcs (by omega) (m.mono (by omega))
/-- all shots, ascending -/
def shotsOf (cs : Cams) : List (Nat × Nat) := cs.zipIdx.flatMap fun p => (List.range p.1.length).map fun j => (p.2, j)
theorem shots_aux {R : Dat → Sto → Prop} {E : XP} {cs : Cams} {st : Sto} (hn : total cs ≤ 10000) (hc : cs.length ≤ 10000) (k : R (.lst ((shotsOf cs).map dShot)) st) : Is (F_l_shots [dCams cs] st) R E := by
  unfold F_l_shots b_l_shots_den dCams
  simp only [is_2, is_1, is_Isi, is_B, is_Cons, is_Nil, is_Get, is_Var, vi_sh, is_C, is_Tup, is_Lst, is_Ite, is_And, is_Or, is_Call, is_Seq', is_L, is_Sl, pi_none, pi_some, ex_int, is_Chain, is_Lc, is_few, is_slNil, is_slSh, is_slOw, si_nx, si_rt, si_Seq, si_Skip, si_Break, si_Cont, si_RetN, si_Asg, si_Ret, si_Do, si_If, si_For, si_AsgT, si_Put, si_Rel, si_App, ai_ow, si_AsgO, si_Par, is_Dict, is_Attr, ti_obj, is_Make, is_Meth, mi_obj, is_LenO, ni_obj, ni_tup, ni_lst, is_EqO, ei_obj, ei_tup, ei_lst, ei_int, is_IxO, xi_obj, xi_tup, xi_lst, si_SetA, ui_ob, is_Lc2, is_fnF, is_fnI, bi_t, bi_f, oi_some, List.getElem?_cons_zero, List.getElem?_cons_succ, List.set_cons_zero, List.set_cons_succ, List.length_cons, List.length_nil, Nat.reduceAdd, Nat.reduceLeDiff, true_and, and_true, lk_self, tg_name, tg_tup, tg_cons, tg_nil, Option.bind_some, List.cons_append, List.nil_append, setE_nil, setE_cons, wipe_nil, wipe_cons, setS_nil, setS_cons, add_int, sub_int, neg_int, lt_int, le_int, gt_int, ge_int, not_bl, dEq_int, dNe_int, pow6, pow7, pow8, pow9, pow10, pow18, int1, len_lst, len_tup, tuple_lst, list_tup, seq_lst, seq_tup, seq_scr, enum_lst, enum_tup, min_int, max_int, ev_1_1, ev_1_2, ev_2_2, ev_1_3, ev_2_3, ev_3_3, ev_1_4, ev_2_4, ev_3_4, ev_4_4, ev_1_5, ev_2_5, ev_3_5, ev_4_5, ev_5_5, ev_1_6, ev_2_6, ev_3_6, ev_4_6, ev_5_6, ev_6_6, ev_1_7, ev_2_7, ev_3_7, ev_4_7, ev_5_7, ev_6_7, ev_7_7, ev_1_8, ev_2_8, ev_3_8, ev_4_8, ev_5_8, ev_6_8, ev_7_8, ev_8_8, ev_1_9, ev_2_9, ev_3_9, ev_4_9, ev_5_9, ev_6_9, ev_7_9, ev_8_9, ev_1_10, ev_2_10, ev_3_10, ev_4_10, ev_5_10, ev_6_10, ev_7_10, ev_8_10, ev_1_11, ev_2_11, ev_3_11, ev_4_11, ev_5_11, ev_6_11, ev_7_11, ev_8_11, ev_1_12, ev_2_12, ev_3_12, ev_4_12, ev_5_12, ev_6_12, ev_7_12, ev_8_12, ev_1_13, ev_2_13, ev_3_13, ev_4_13, ev_5_13, ev_6_13, ev_7_13, ev_8_13, ev_1_14, ev_2_14, ev_3_14, ev_4_14, ev_5_14, ev_6_14, ev_7_14, ev_8_14, ev_1_15, ev_2_15, ev_3_15, ev_4_15, ev_5_15, ev_6_15, ev_7_15, ev_8_15, ev_1_16, ev_2_16, ev_3_16, ev_4_16, ev_5_16, ev_6_16, ev_7_16, ev_8_16, ev_1_17, ev_2_17, ev_3_17, ev_4_17, ev_5_17, ev_6_17, ev_7_17, ev_8_17, ev_1_18, ev_2_18, ev_3_18, ev_4_18, ev_5_18, ev_6_18, ev_7_18, ev_8_18, ev_1_19, ev_2_19, ev_3_19, ev_4_19, ev_5_19, ev_6_19, ev_7_19, ev_8_19, ev_1_20, ev_2_20, ev_3_20, ev_4_20, ev_5_20, ev_6_20, ev_7_20, ev_8_20, ev_1_21, ev_2_21, ev_3_21, ev_4_21, ev_5_21, ev_6_21, ev_7_21, ev_8_21]
  rw [enumD_map]
  have len : ∀ (xs : List (List Int × Nat)), (xs.flatMap fun p => (List.range p.1.length).map fun j => (p.2, j)).length = (xs.map fun p => p.1.length).sum := fun xs => by
    rw [List.length_flatMap]
    congr 1
    exact List.map_congr_left fun p _ => by simp
  have tot : (cs.zipIdx.map fun p => p.1.length).sum = total cs := by
    unfold total
    congr 1
    rw [show (fun p : List Int × Nat => p.1.length) = List.length ∘ Prod.fst from rfl, ← List.map_map]
    simp
  refine for_T (fun r env st' => st' = st ∧ ∃ done e2 e3 e4, env = [some (.sh (.tup (cs.map dStamps))), some (.sh (.lst ((done.flatMap fun p : List Int × Nat => (List.range p.1.length).map fun j => (p.2, j)).map dShot))), e2, e3, e4] ∧ done ++ r = cs.zipIdx) ?_ ?_ ⟨rfl, [], none, none, none, rfl, rfl⟩
  · rintro ⟨ns, i⟩ r env st' _ ⟨rfl, done, e2, e3, e4, rfl, hd⟩
    have b : (done.map fun p => p.1.length).sum + ns.length ≤ total cs := by
      rw [← tot, ← hd]
      simp
    simp only [is_2, is_1, is_Isi, is_B, is_Cons, is_Nil, is_Get, is_Var, vi_sh, is_C, is_Tup, is_Lst, is_Ite, is_And, is_Or, is_Call, is_Seq', is_L, is_Sl, pi_none, pi_some, ex_int, is_Chain, is_Lc, is_few, is_slNil, is_slSh, is_slOw, si_nx, si_rt, si_Seq, si_Skip, si_Break, si_Cont, si_RetN, si_Asg, si_Ret, si_Do, si_If, si_For, si_AsgT, si_Put, si_Rel, si_App, ai_ow, si_AsgO, si_Par, is_Dict, is_Attr, ti_obj, is_Make, is_Meth, mi_obj, is_LenO, ni_obj, ni_tup, ni_lst, is_EqO, ei_obj, ei_tup, ei_lst, ei_int, is_IxO, xi_obj, xi_tup, xi_lst, si_SetA, ui_ob, is_Lc2, is_fnF, is_fnI, bi_t, bi_f, oi_some, List.getElem?_cons_zero, List.getElem?_cons_succ, List.set_cons_zero, List.set_cons_succ, List.length_cons, List.length_nil, Nat.reduceAdd, Nat.reduceLeDiff, true_and, and_true, lk_self, tg_name, tg_tup, tg_cons, tg_nil, Option.bind_some, List.cons_append, List.nil_append, setE_nil, setE_cons, wipe_nil, wipe_cons, setS_nil, setS_cons, add_int, sub_int, neg_int, lt_int, le_int, gt_int, ge_int, not_bl, dEq_int, dNe_int, pow6, pow7, pow8, pow9, pow10, pow18, int1, len_lst, len_tup, tuple_lst, list_tup, seq_lst, seq_tup, seq_scr, enum_lst, enum_tup, min_int, max_int, List.length_map]
    rw [range_nat (by omega), oi_some, rangeD_map]
    refine ⟨by simp; omega, lc_mapT (fun j => dShot (i, j)) (fun j _ => ?_) ?_⟩
    · simp only [is_2, is_1, is_Isi, is_B, is_Cons, is_Nil, is_Get, is_Var, vi_sh, is_C, is_Tup, is_Lst, is_Ite, is_And, is_Or, is_Call, is_Seq', is_L, is_Sl, pi_none, pi_some, ex_int, is_Chain, is_Lc, is_few, is_slNil, is_slSh, is_slOw, si_nx, si_rt, si_Seq, si_Skip, si_Break, si_Cont, si_RetN, si_Asg, si_Ret, si_Do, si_If, si_For, si_AsgT, si_Put, si_Rel, si_App, ai_ow, si_AsgO, si_Par, is_Dict, is_Attr, ti_obj, is_Make, is_Meth, mi_obj, is_LenO, ni_obj, ni_tup, ni_lst, is_EqO, ei_obj, ei_tup, ei_lst, ei_int, is_IxO, xi_obj, xi_tup, xi_lst, si_SetA, ui_ob, is_Lc2, is_fnF, is_fnI, bi_t, bi_f, oi_some, List.getElem?_cons_zero, List.getElem?_cons_succ, List.set_cons_zero, List.set_cons_succ, List.length_cons, List.length_nil, Nat.reduceAdd, Nat.reduceLeDiff, true_and, and_true, lk_self, tg_name, tg_tup, tg_cons, tg_nil, Option.bind_some, List.cons_append, List.nil_append, setE_nil, setE_cons, wipe_nil, wipe_cons, setS_nil, setS_cons, add_int, sub_int, neg_int, lt_int, le_int, gt_int, ge_int, not_bl, dEq_int, dNe_int, pow6, pow7, pow8, pow9, pow10, pow18, int1, len_lst, len_tup, tuple_lst, list_tup, seq_lst, seq_tup, seq_scr, enum_lst, enum_tup, min_int, max_int]
    · rw [add_l (by rw [List.length_map, len]; simp; omega), oi_some]
      refine ⟨rfl, done ++ [(ns, i)], some (.sh (.int i)), some (.sh (dStamps ns)), e4, ?_, by rw [← hd]; simp⟩
      simp
  · rintro env st' ⟨rfl, done, e2, e3, e4, rfl, hd⟩
    simp only [is_2, is_1, is_Isi, is_B, is_Cons, is_Nil, is_Get, is_Var, vi_sh, is_C, is_Tup, is_Lst, is_Ite, is_And, is_Or, is_Call, is_Seq', is_L, is_Sl, pi_none, pi_some, ex_int, is_Chain, is_Lc, is_few, is_slNil, is_slSh, is_slOw, si_nx, si_rt, si_Seq, si_Skip, si_Break, si_Cont, si_RetN, si_Asg, si_Ret, si_Do, si_If, si_For, si_AsgT, si_Put, si_Rel, si_App, ai_ow, si_AsgO, si_Par, is_Dict, is_Attr, ti_obj, is_Make, is_Meth, mi_obj, is_LenO, ni_obj, ni_tup, ni_lst, is_EqO, ei_obj, ei_tup, ei_lst, ei_int, is_IxO, xi_obj, xi_tup, xi_lst, si_SetA, ui_ob, is_Lc2, is_fnF, is_fnI, bi_t, bi_f, oi_some, List.getElem?_cons_zero, List.getElem?_cons_succ, List.set_cons_zero, List.set_cons_succ, List.length_cons, List.length_nil, Nat.reduceAdd, Nat.reduceLeDiff, true_and, and_true, lk_self, tg_name, tg_tup, tg_cons, tg_nil, Option.bind_some, List.cons_append, List.nil_append, setE_nil, setE_cons, wipe_nil, wipe_cons, setS_nil, setS_cons, add_int, sub_int, neg_int, lt_int, le_int, gt_int, ge_int, not_bl, dEq_int, dNe_int, pow6, pow7, pow8, pow9, pow10, pow18, int1, len_lst, len_tup, tuple_lst, list_tup, seq_lst, seq_tup, seq_scr, enum_lst, enum_tup, min_int, max_int]
    rw [List.append_nil] at hd
    rw [hd]
    exact k
theorem like_spec {n b : Nat} {d : Dat} {st : Sto} {R : Dat → Sto → Prop} {E : XP} (h : Rp n b d) (hn : n ≤ 64) (hb : b ≤ 1000000) (k : R (.bl true) st) : Is (F_l_like [d, d] st) R E := by
  unfold F_l_like b_l_like_den
  obtain ⟨x, e⟩ := h.repr hn hb
  simp only [is_2, is_1, is_Isi, is_B, is_Cons, is_Nil, is_Get, is_Var, vi_sh, is_C, is_Tup, is_Lst, is_Ite, is_And, is_Or, is_Call, is_Seq', is_L, is_Sl, pi_none, pi_some, ex_int, is_Chain, is_Lc, is_few, is_slNil, is_slSh, is_slOw, si_nx, si_rt, si_Seq, si_Skip, si_Break, si_Cont, si_RetN, si_Asg, si_Ret, si_Do, si_If, si_For, si_AsgT, si_Put, si_Rel, si_App, ai_ow, si_AsgO, si_Par, is_Dict, is_Attr, ti_obj, is_Make, is_Meth, mi_obj, is_LenO, ni_obj, ni_tup, ni_lst, is_EqO, ei_obj, ei_tup, ei_lst, ei_int, is_IxO, xi_obj, xi_tup, xi_lst, si_SetA, ui_ob, is_Lc2, is_fnF, is_fnI, bi_t, bi_f, oi_some, List.getElem?_cons_zero, List.getElem?_cons_succ, List.set_cons_zero, List.set_cons_succ, List.length_cons, List.length_nil, Nat.reduceAdd, Nat.reduceLeDiff, true_and, and_true, lk_self, tg_name, tg_tup, tg_cons, tg_nil, Option.bind_some, List.cons_append, List.nil_append, setE_nil, setE_cons, wipe_nil, wipe_cons, setS_nil, setS_cons, add_int, sub_int, neg_int, lt_int, le_int, gt_int, ge_int, not_bl, dEq_int, dNe_int, pow6, pow7, pow8, pow9, pow10, pow18, int1, len_lst, len_tup, tuple_lst, list_tup, seq_lst, seq_tup, seq_scr, enum_lst, enum_tup, min_int, max_int, ev_1_1, ev_1_2, ev_2_2, ev_1_3, ev_2_3, ev_3_3, ev_1_4, ev_2_4, ev_3_4, ev_4_4, ev_1_5, ev_2_5, ev_3_5, ev_4_5, ev_5_5, ev_1_6, ev_2_6, ev_3_6, ev_4_6, ev_5_6, ev_6_6, ev_1_7, ev_2_7, ev_3_7, ev_4_7, ev_5_7, ev_6_7, ev_7_7, ev_1_8, ev_2_8, ev_3_8, ev_4_8, ev_5_8, ev_6_8, ev_7_8, ev_8_8, ev_1_9, ev_2_9, ev_3_9, ev_4_9, ev_5_9, ev_6_9, ev_7_9, ev_8_9, ev_1_10, ev_2_10, ev_3_10, ev_4_10, ev_5_10, ev_6_10, ev_7_10, ev_8_10, ev_1_11, ev_2_11, ev_3_11, ev_4_11, ev_5_11, ev_6_11, ev_7_11, ev_8_11, ev_1_12, ev_2_12, ev_3_12, ev_4_12, ev_5_12, ev_6_12, ev_7_12, ev_8_12, ev_1_13, ev_2_13, ev_3_13, ev_4_13, ev_5_13, ev_6_13, ev_7_13, ev_8_13, ev_1_14, ev_2_14, ev_3_14, ev_4_14, ev_5_14, ev_6_14, ev_7_14, ev_8_14, ev_1_15, ev_2_15, ev_3_15, ev_4_15, ev_5_15, ev_6_15, ev_7_15, ev_8_15, ev_1_16, ev_2_16, ev_3_16, ev_4_16, ev_5_16, ev_6_16, ev_7_16, ev_8_16, ev_1_17, ev_2_17, ev_3_17, ev_4_17, ev_5_17, ev_6_17, ev_7_17, ev_8_17, ev_1_18, ev_2_18, ev_3_18, ev_4_18, ev_5_18, ev_6_18, ev_7_18, ev_8_18, ev_1_19, ev_2_19, ev_3_19, ev_4_19, ev_5_19, ev_6_19, ev_7_19, ev_8_19, ev_1_20, ev_2_20, ev_3_20, ev_4_20, ev_5_20, ev_6_20, ev_7_20, ev_8_20, ev_1_21, ev_2_21, ev_3_21, ev_4_21, ev_5_21, ev_6_21, ev_7_21, ev_8_21, e]
  rw [dEq_str, beq_self_eq_true]
  exact k
end LW
set_option Elab.async false
set_option linter.all false
set_option maxRecDepth 100000
set_option maxHeartbeats 2000000
namespace LW
open PySem GI GP
structure Tie where
  s : Nat × Nat
  t : Nat × Nat
  lo : Int
  hi : Int
  deriving DecidableEq
abbrev dTie (t : Tie) : Dat := .tup [dShot t.s, dShot t.t, .int t.lo, .int t.hi]
abbrev dPair (p : Int × Int) : Dat := .tup [.int p.1, .int p.2]
structure Pl where
  cams : Cams
  bounds : List (Int × Int)
  ties : List Tie
  gap : Int
abbrev dBounds (bs : List (Int × Int)) : Dat := .tup (bs.map dPair)
abbrev dTies (ts : List Tie) : Dat := .tup (ts.map dTie)
abbrev dPlain (p : Pl) : Dat := .tup [dCams p.cams, dBounds p.bounds, dTies p.ties, .int p.gap]
abbrev dSet (p : Pl) : Dat := .obj "Setting" [dBounds p.bounds, dCams p.cams, .int p.gap, dTies p.ties]
structure OkCams (cs : Cams) : Prop where
  some : 1 ≤ cs.length
  few : cs.length ≤ 3
  each : ∀ ns ∈ cs, Stamps ns
  tot : total cs ≤ 12
def IsShot (cs : Cams) (s : Nat × Nat) : Prop := ∃ ns, cs[s.1]? = some ns ∧ s.2 < ns.length
def OkPair (p : Int × Int) : Prop := -1000000000 ≤ p.1 ∧ p.1 ≤ p.2 ∧ p.2 ≤ 1000000000
def OkTie (cs : Cams) (t : Tie) : Prop := IsShot cs t.s ∧ IsShot cs t.t ∧ -10000000000 ≤ t.lo ∧ t.lo ≤ t.hi ∧ t.hi ≤ 10000000000
structure OkP (p : Pl) : Prop where
  cams : OkCams p.cams
  blen : p.bounds.length = p.cams.length
  bounds : ∀ b ∈ p.bounds, OkPair b
  tlen : p.ties.length ≤ 12
  ties : ∀ t ∈ p.ties, OkTie p.cams t
  gap0 : 1 ≤ p.gap
  gap1 : p.gap ≤ 10000000000
theorem mem_shotsOf {cs : Cams} {s : Nat × Nat} : s ∈ shotsOf cs ↔ IsShot cs s := by
  unfold shotsOf IsShot
  rw [List.mem_flatMap]
  constructor
  · rintro ⟨⟨ns, i⟩, h1, h2⟩
    obtain ⟨j, hj, rfl⟩ := List.mem_map.mp h2
    have := List.mem_zipIdx_iff_getElem?.mp h1
    exact ⟨ns, this, List.mem_range.mp hj⟩
  · rintro ⟨ns, h1, h2⟩
    exact ⟨(ns, s.1), List.mem_zipIdx_iff_getElem?.mpr h1, List.mem_map.mpr ⟨s.2, List.mem_range.mpr h2, rfl⟩⟩
theorem shotsOf_len (cs : Cams) : (shotsOf cs).length = total cs := by
  unfold shotsOf total
  rw [List.length_flatMap]
  have e : (fun p : List Int × Nat => ((List.range p.1.length).map fun j => (p.2, j)).length) = List.length ∘ Prod.fst := by
    funext p
    simp
  rw [e, ← List.map_map]
  simp
theorem sort2 (x y : Int) : dSortI [.lst [.int x, .int y]] = some (.lst [.int (min x y), .int (max x y)]) := by
  have h := sort_ints [x, y]
  rw [show [x, y].map Dat.int = [.int x, .int y] from rfl] at h
  rw [h]
  have e : srt [x, y] = [min x y, max x y] := by
    unfold srt
    by_cases z : x ≤ y
    · rw [List.mergeSort_of_pairwise (by simpa using z), Int.min_eq_left z, Int.max_eq_right z]
    · have z' : y ≤ x := by omega
      rw [Int.min_eq_right z', Int.max_eq_left z']
      have e2 : [x, y].Perm [y, x] := List.Perm.swap y x []
      exact (List.Perm.trans (List.mergeSort_perm [x, y] _) e2).eq_of_pairwise (le := fun a b : Int => a ≤ b) (fun a b _ _ h1 h2 => by omega) (srt_sorted [x, y]) (by simpa using z')
  rw [e]
  rfl
theorem ix_mapL {α : Type} {enc : α → Dat} {xs : List α} {i : Int} (h0 : 0 ≤ i) (h1 : i < xs.length) : ∃ x ∈ xs, dIx (.lst (xs.map enc)) (.int i) = some (enc x) := by
  have h2 : i.toNat < xs.length := by omega
  refine ⟨xs[i.toNat], List.getElem_mem h2, ?_⟩
  rw [ix_l h0 (by simpa using h1), List.getElem?_map, List.getElem?_eq_getElem h2]
  rfl
theorem dNe_nilD {n : Nat} {ds : List Dat} (h : ∀ d ∈ ds, Pn n d) (hn : n < 64) : dNe (.lst ds) (.lst []) = some (.bl (decide (ds ≠ []))) := by
  rw [dNe_pn (n := n + 1) (m := 1) (.lst h) (.lst fun _ z => by cases z) (by omega) (by decide)]
  congr 2
  cases ds <;> simp
theorem pn_shot {n : Nat} (s : Nat × Nat) : Pn (n + 1) (dShot s) := .tup fun d hd => by
  rcases List.mem_cons.mp hd with e | e
  · rw [e]; exact .int _ _
  · rw [List.mem_singleton.mp e]; exact .int _ _
theorem ix2_0 {x y : Dat} : dIx (.lst [x, y]) (.int 0) = some x := rfl
theorem ix2_1 {x y : Dat} : dIx (.lst [x, y]) (.int 1) = some y := rfl
theorem far_spec {a : Nat} {rest st : Sto} {R : Dat → Sto → Prop} {E : XP} (h : Mst a rest st) (ha : a + 700 ≤ 1000000000) (k : ∀ p st', OkP p → Mst (a + 700) rest st' → R (dPlain p) st') : Is (F_l_far [.loc 0] st) R E := by
  unfold F_l_far b_l_far_den
  simp only [is_2, is_1, is_Isi, is_B, is_Cons, is_Nil, is_Get, is_Var, vi_sh, is_C, is_Tup, is_Lst, is_Ite, is_And, is_Or, is_Call, is_Seq', is_L, is_Sl, pi_none, pi_some, ex_int, is_Chain, is_Lc, is_few, is_slNil, is_slSh, is_slOw, si_nx, si_rt, si_Seq, si_Skip, si_Break, si_Cont, si_RetN, si_Asg, si_Ret, si_Do, si_If, si_For, si_AsgT, si_Put, si_Rel, si_App, ai_ow, si_AsgO, si_Par, is_Dict, is_Attr, ti_obj, is_Make, is_Meth, mi_obj, is_LenO, ni_obj, ni_tup, ni_lst, is_EqO, ei_obj, ei_tup, ei_lst, ei_int, is_IxO, xi_obj, xi_tup, xi_lst, si_SetA, ui_ob, is_Lc2, is_fnF, is_fnI, bi_t, bi_f, oi_some, List.getElem?_cons_zero, List.getElem?_cons_succ, List.set_cons_zero, List.set_cons_succ, List.length_cons, List.length_nil, Nat.reduceAdd, Nat.reduceLeDiff, true_and, and_true, lk_self, tg_name, tg_tup, tg_cons, tg_nil, Option.bind_some, List.cons_append, List.nil_append, setE_nil, setE_cons, wipe_nil, wipe_cons, setS_nil, setS_cons, add_int, sub_int, neg_int, lt_int, le_int, gt_int, ge_int, not_bl, dEq_int, dNe_int, pow6, pow7, pow8, pow9, pow10, pow18, int1, len_lst, len_tup, tuple_lst, list_tup, seq_lst, seq_tup, seq_scr, enum_lst, enum_tup, min_int, max_int, ev_1_1, ev_1_2, ev_2_2, ev_1_3, ev_2_3, ev_3_3, ev_1_4, ev_2_4, ev_3_4, ev_4_4, ev_1_5, ev_2_5, ev_3_5, ev_4_5, ev_5_5, ev_1_6, ev_2_6, ev_3_6, ev_4_6, ev_5_6, ev_6_6, ev_1_7, ev_2_7, ev_3_7, ev_4_7, ev_5_7, ev_6_7, ev_7_7, ev_1_8, ev_2_8, ev_3_8, ev_4_8, ev_5_8, ev_6_8, ev_7_8, ev_8_8, ev_1_9, ev_2_9, ev_3_9, ev_4_9, ev_5_9, ev_6_9, ev_7_9, ev_8_9, ev_1_10, ev_2_10, ev_3_10, ev_4_10, ev_5_10, ev_6_10, ev_7_10, ev_8_10, ev_1_11, ev_2_11, ev_3_11, ev_4_11, ev_5_11, ev_6_11, ev_7_11, ev_8_11, ev_1_12, ev_2_12, ev_3_12, ev_4_12, ev_5_12, ev_6_12, ev_7_12, ev_8_12, ev_1_13, ev_2_13, ev_3_13, ev_4_13, ev_5_13, ev_6_13, ev_7_13, ev_8_13, ev_1_14, ev_2_14, ev_3_14, ev_4_14, ev_5_14, ev_6_14, ev_7_14, ev_8_14, ev_1_15, ev_2_15, ev_3_15, ev_4_15, ev_5_15, ev_6_15, ev_7_15, ev_8_15, ev_1_16, ev_2_16, ev_3_16, ev_4_16, ev_5_16, ev_6_16, ev_7_16, ev_8_16, ev_1_17, ev_2_17, ev_3_17, ev_4_17, ev_5_17, ev_6_17, ev_7_17, ev_8_17, ev_1_18, ev_2_18, ev_3_18, ev_4_18, ev_5_18, ev_6_18, ev_7_18, ev_8_18, ev_1_19, ev_2_19, ev_3_19, ev_4_19, ev_5_19, ev_6_19, ev_7_19, ev_8_19, ev_1_20, ev_2_20, ev_3_20, ev_4_20, ev_5_20, ev_6_20, ev_7_20, ev_8_20, ev_1_21, ev_2_21, ev_3_21, ev_4_21, ev_5_21, ev_6_21, ev_7_21, ev_8_21]
  refine draw_spec h (by omega) (by decide) (by decide) fun way st1 _ _ m1 => ?_
  refine cameras_spec (n := 12) m1 (by decide) (by decide) (by decide) (by omega) fun cs st2 c1 c2 c3 c4 m2 => ?_
  have oc : OkCams cs := ⟨c1, by omega, c3, c4⟩
  refine shots_aux (by omega) (by omega) ?_
  rw [show dCams cs = .tup (cs.map dStamps) from rfl, seq_tup, oi_some]
  refine for_T (fun r env st => ∃ bs e2 e7, env = [some (.sh (.loc 0)), some (.sh (.tup (cs.map dStamps))), e2, none, some (.ow (bs.map dPair)), some (.ow []), some (.sh (.lst ((shotsOf cs).map dShot))), e7] ∧ bs.length + r.length = cs.length ∧ (∀ b ∈ bs, OkPair b) ∧ Mst (a + 614 + bs.length * 4) rest st) ?_ ?_ ⟨[], none, none, rfl, by simp, (fun _ z => by cases z), by simpa using m2⟩
  · rintro ns r env st _ ⟨bs, e2, e7, rfl, hl, hb, m⟩
    rw [List.length_cons] at hl
    simp only [is_2, is_1, is_Isi, is_B, is_Cons, is_Nil, is_Get, is_Var, vi_sh, is_C, is_Tup, is_Lst, is_Ite, is_And, is_Or, is_Call, is_Seq', is_L, is_Sl, pi_none, pi_some, ex_int, is_Chain, is_Lc, is_few, is_slNil, is_slSh, is_slOw, si_nx, si_rt, si_Seq, si_Skip, si_Break, si_Cont, si_RetN, si_Asg, si_Ret, si_Do, si_If, si_For, si_AsgT, si_Put, si_Rel, si_App, ai_ow, si_AsgO, si_Par, is_Dict, is_Attr, ti_obj, is_Make, is_Meth, mi_obj, is_LenO, ni_obj, ni_tup, ni_lst, is_EqO, ei_obj, ei_tup, ei_lst, ei_int, is_IxO, xi_obj, xi_tup, xi_lst, si_SetA, ui_ob, is_Lc2, is_fnF, is_fnI, bi_t, bi_f, oi_some, List.getElem?_cons_zero, List.getElem?_cons_succ, List.set_cons_zero, List.set_cons_succ, List.length_cons, List.length_nil, Nat.reduceAdd, Nat.reduceLeDiff, true_and, and_true, lk_self, tg_name, tg_tup, tg_cons, tg_nil, Option.bind_some, List.cons_append, List.nil_append, setE_nil, setE_cons, wipe_nil, wipe_cons, setS_nil, setS_cons, add_int, sub_int, neg_int, lt_int, le_int, gt_int, ge_int, not_bl, dEq_int, dNe_int, pow6, pow7, pow8, pow9, pow10, pow18, int1, len_lst, len_tup, tuple_lst, list_tup, seq_lst, seq_tup, seq_scr, enum_lst, enum_tup, min_int, max_int]
    refine wide_spec m (by omega) (by decide) fun x st3 x0 x1 m3 => ?_
    refine draw_spec m3 (by omega) (by decide) (by decide) fun y st4 y0 y1 m4 => ?_
    simp (disch := decide) only [is_2, is_1, is_Isi, is_B, is_Cons, is_Nil, is_Get, is_Var, vi_sh, is_C, is_Tup, is_Lst, is_Ite, is_And, is_Or, is_Call, is_Seq', is_L, is_Sl, pi_none, pi_some, ex_int, is_Chain, is_Lc, is_few, is_slNil, is_slSh, is_slOw, si_nx, si_rt, si_Seq, si_Skip, si_Break, si_Cont, si_RetN, si_Asg, si_Ret, si_Do, si_If, si_For, si_AsgT, si_Put, si_Rel, si_App, ai_ow, si_AsgO, si_Par, is_Dict, is_Attr, ti_obj, is_Make, is_Meth, mi_obj, is_LenO, ni_obj, ni_tup, ni_lst, is_EqO, ei_obj, ei_tup, ei_lst, ei_int, is_IxO, xi_obj, xi_tup, xi_lst, si_SetA, ui_ob, is_Lc2, is_fnF, is_fnI, bi_t, bi_f, oi_some, List.getElem?_cons_zero, List.getElem?_cons_succ, List.set_cons_zero, List.set_cons_succ, List.length_cons, List.length_nil, Nat.reduceAdd, Nat.reduceLeDiff, true_and, and_true, lk_self, tg_name, tg_tup, tg_cons, tg_nil, Option.bind_some, List.cons_append, List.nil_append, setE_nil, setE_cons, wipe_nil, wipe_cons, setS_nil, setS_cons, add_int, sub_int, neg_int, lt_int, le_int, gt_int, ge_int, not_bl, dEq_int, dNe_int, pow6, pow7, pow8, pow9, pow10, pow18, int1, len_lst, len_tup, tuple_lst, list_tup, seq_lst, seq_tup, seq_scr, enum_lst, enum_tup, min_int, max_int, mul_r, sort2, ix2_0, ix2_1]
    refine draw_spec m4 (by omega) (by decide) (by decide) fun z st5 z0 z1 m5 => ?_
    rcases (show z = 0 ∨ z = 1 by omega) with rfl | rfl
    · simp only [is_2, is_1, is_Isi, is_B, is_Cons, is_Nil, is_Get, is_Var, vi_sh, is_C, is_Tup, is_Lst, is_Ite, is_And, is_Or, is_Call, is_Seq', is_L, is_Sl, pi_none, pi_some, ex_int, is_Chain, is_Lc, is_few, is_slNil, is_slSh, is_slOw, si_nx, si_rt, si_Seq, si_Skip, si_Break, si_Cont, si_RetN, si_Asg, si_Ret, si_Do, si_If, si_For, si_AsgT, si_Put, si_Rel, si_App, ai_ow, si_AsgO, si_Par, is_Dict, is_Attr, ti_obj, is_Make, is_Meth, mi_obj, is_LenO, ni_obj, ni_tup, ni_lst, is_EqO, ei_obj, ei_tup, ei_lst, ei_int, is_IxO, xi_obj, xi_tup, xi_lst, si_SetA, ui_ob, is_Lc2, is_fnF, is_fnI, bi_t, bi_f, oi_some, List.getElem?_cons_zero, List.getElem?_cons_succ, List.set_cons_zero, List.set_cons_succ, List.length_cons, List.length_nil, Nat.reduceAdd, Nat.reduceLeDiff, true_and, and_true, lk_self, tg_name, tg_tup, tg_cons, tg_nil, Option.bind_some, List.cons_append, List.nil_append, setE_nil, setE_cons, wipe_nil, wipe_cons, setS_nil, setS_cons, add_int, sub_int, neg_int, lt_int, le_int, gt_int, ge_int, not_bl, dEq_int, dNe_int, pow6, pow7, pow8, pow9, pow10, pow18, int1, len_lst, len_tup, tuple_lst, list_tup, seq_lst, seq_tup, seq_scr, enum_lst, enum_tup, min_int, max_int, ix2_0, List.length_map]
      rw [show bs.map dPair ++ [Dat.tup [.int 0, .int 0]] = (bs ++ [(0, 0)]).map dPair by simp]
      refine ⟨by omega, bs ++ [(0, 0)], _, _, rfl, by simp; omega, fun b hb' => ?_, m5.mono (by simp; omega)⟩
      rcases List.mem_append.mp hb' with q | q
      · exact hb b q
      · rw [List.mem_singleton.mp q]; exact ⟨by decide, by decide, by decide⟩
    · have q : OkPair (min x (y * 25 * 10000000 - 1000000000), max x (y * 25 * 10000000 - 1000000000)) := by
        refine ⟨?_, ?_, ?_⟩ <;> dsimp only <;> omega
      simp only [is_2, is_1, is_Isi, is_B, is_Cons, is_Nil, is_Get, is_Var, vi_sh, is_C, is_Tup, is_Lst, is_Ite, is_And, is_Or, is_Call, is_Seq', is_L, is_Sl, pi_none, pi_some, ex_int, is_Chain, is_Lc, is_few, is_slNil, is_slSh, is_slOw, si_nx, si_rt, si_Seq, si_Skip, si_Break, si_Cont, si_RetN, si_Asg, si_Ret, si_Do, si_If, si_For, si_AsgT, si_Put, si_Rel, si_App, ai_ow, si_AsgO, si_Par, is_Dict, is_Attr, ti_obj, is_Make, is_Meth, mi_obj, is_LenO, ni_obj, ni_tup, ni_lst, is_EqO, ei_obj, ei_tup, ei_lst, ei_int, is_IxO, xi_obj, xi_tup, xi_lst, si_SetA, ui_ob, is_Lc2, is_fnF, is_fnI, bi_t, bi_f, oi_some, List.getElem?_cons_zero, List.getElem?_cons_succ, List.set_cons_zero, List.set_cons_succ, List.length_cons, List.length_nil, Nat.reduceAdd, Nat.reduceLeDiff, true_and, and_true, lk_self, tg_name, tg_tup, tg_cons, tg_nil, Option.bind_some, List.cons_append, List.nil_append, setE_nil, setE_cons, wipe_nil, wipe_cons, setS_nil, setS_cons, add_int, sub_int, neg_int, lt_int, le_int, gt_int, ge_int, not_bl, dEq_int, dNe_int, pow6, pow7, pow8, pow9, pow10, pow18, int1, len_lst, len_tup, tuple_lst, list_tup, seq_lst, seq_tup, seq_scr, enum_lst, enum_tup, min_int, max_int, ix2_1, List.length_map]
      generalize min x (y * 25 * 10000000 - 1000000000) = u at q ⊢
      generalize max x (y * 25 * 10000000 - 1000000000) = v at q ⊢
      rw [show bs.map dPair ++ [Dat.tup [.int u, .int v]] = (bs ++ [(u, v)]).map dPair by simp]
      refine ⟨by omega, bs ++ [(u, v)], _, _, rfl, by simp; omega, fun b hb' => ?_, m5.mono (by simp; omega)⟩
      rcases List.mem_append.mp hb' with z | z
      · exact hb b z
      · rw [List.mem_singleton.mp z]; exact q
  · rintro env st ⟨bs, e2, e7, rfl, hl, hb, m⟩
    rw [List.length_nil] at hl
    have fin : ∀ (ts : List Tie) (e3 e7 : Option GI.Slot) (st' : Sto), ts.length ≤ 12 → (∀ t ∈ ts, OkTie cs t) → Mst (a + 690) rest st' → Is (sTup (sCons (sVar 1) (sCons (sB dTuple (sCons (sVar 4) (sNil))) (sCons (sB dTuple (sCons (sVar 5) (sNil))) (sCons (s2 dIx (sLst (sCons (s2 dAdd (sC (.int 1)) (sCall 2 F_l_draw (sCons (sVar 0) (sCons (sC (.int 60)) (sNil))))) (sCons (sCall 3 F_l_wide (sCons (sVar 0) (sCons (sC (.int 1)) (sCons (s2 dPow (sC (.int 10)) (sC (.int 10))) (sNil))))) (sNil)))) (sCall 2 F_l_draw (sCons (sVar 0) (sCons (sC (.int 2)) (sNil))))) (sNil))))) [some (.sh (.loc 0)), some (.sh (.tup (cs.map dStamps))), e2, e3, some (.sh (.lst (bs.map dPair))), some (.sh (.lst (ts.map dTie))), some (.sh (.lst ((shotsOf cs).map dShot))), e7] st') R E := fun ts e3 e7 st' t1 t2 m => by
      simp only [is_2, is_1, is_Isi, is_B, is_Cons, is_Nil, is_Get, is_Var, vi_sh, is_C, is_Tup, is_Lst, is_Ite, is_And, is_Or, is_Call, is_Seq', is_L, is_Sl, pi_none, pi_some, ex_int, is_Chain, is_Lc, is_few, is_slNil, is_slSh, is_slOw, si_nx, si_rt, si_Seq, si_Skip, si_Break, si_Cont, si_RetN, si_Asg, si_Ret, si_Do, si_If, si_For, si_AsgT, si_Put, si_Rel, si_App, ai_ow, si_AsgO, si_Par, is_Dict, is_Attr, ti_obj, is_Make, is_Meth, mi_obj, is_LenO, ni_obj, ni_tup, ni_lst, is_EqO, ei_obj, ei_tup, ei_lst, ei_int, is_IxO, xi_obj, xi_tup, xi_lst, si_SetA, ui_ob, is_Lc2, is_fnF, is_fnI, bi_t, bi_f, oi_some, List.getElem?_cons_zero, List.getElem?_cons_succ, List.set_cons_zero, List.set_cons_succ, List.length_cons, List.length_nil, Nat.reduceAdd, Nat.reduceLeDiff, true_and, and_true, lk_self, tg_name, tg_tup, tg_cons, tg_nil, Option.bind_some, List.cons_append, List.nil_append, setE_nil, setE_cons, wipe_nil, wipe_cons, setS_nil, setS_cons, add_int, sub_int, neg_int, lt_int, le_int, gt_int, ge_int, not_bl, dEq_int, dNe_int, pow6, pow7, pow8, pow9, pow10, pow18, int1, len_lst, len_tup, tuple_lst, list_tup, seq_lst, seq_tup, seq_scr, enum_lst, enum_tup, min_int, max_int]
      refine draw_spec m (by omega) (by decide) (by decide) fun x st3 x0 x1 m3 => ?_
      simp only [is_2, is_1, is_Isi, is_B, is_Cons, is_Nil, is_Get, is_Var, vi_sh, is_C, is_Tup, is_Lst, is_Ite, is_And, is_Or, is_Call, is_Seq', is_L, is_Sl, pi_none, pi_some, ex_int, is_Chain, is_Lc, is_few, is_slNil, is_slSh, is_slOw, si_nx, si_rt, si_Seq, si_Skip, si_Break, si_Cont, si_RetN, si_Asg, si_Ret, si_Do, si_If, si_For, si_AsgT, si_Put, si_Rel, si_App, ai_ow, si_AsgO, si_Par, is_Dict, is_Attr, ti_obj, is_Make, is_Meth, mi_obj, is_LenO, ni_obj, ni_tup, ni_lst, is_EqO, ei_obj, ei_tup, ei_lst, ei_int, is_IxO, xi_obj, xi_tup, xi_lst, si_SetA, ui_ob, is_Lc2, is_fnF, is_fnI, bi_t, bi_f, oi_some, List.getElem?_cons_zero, List.getElem?_cons_succ, List.set_cons_zero, List.set_cons_succ, List.length_cons, List.length_nil, Nat.reduceAdd, Nat.reduceLeDiff, true_and, and_true, lk_self, tg_name, tg_tup, tg_cons, tg_nil, Option.bind_some, List.cons_append, List.nil_append, setE_nil, setE_cons, wipe_nil, wipe_cons, setS_nil, setS_cons, add_int, sub_int, neg_int, lt_int, le_int, gt_int, ge_int, not_bl, dEq_int, dNe_int, pow6, pow7, pow8, pow9, pow10, pow18, int1, len_lst, len_tup, tuple_lst, list_tup, seq_lst, seq_tup, seq_scr, enum_lst, enum_tup, min_int, max_int]
      refine wide_spec m3 (by omega) (by decide) fun y st4 y0 y1 m4 => ?_
      refine draw_spec m4 (by omega) (by decide) (by decide) fun z st5 z0 z1 m5 => ?_
      rcases (show z = 0 ∨ z = 1 by omega) with rfl | rfl
      · rw [ix2_0]
        exact k ⟨cs, bs, ts, 1 + x⟩ st5 ⟨oc, by simpa using hl, hb, t1, t2, by dsimp only; omega, by dsimp only; omega⟩ (m5.mono (by omega))
      · rw [ix2_1]
        exact k ⟨cs, bs, ts, y⟩ st5 ⟨oc, by simpa using hl, hb, t1, t2, by dsimp only; omega, by dsimp only; omega⟩ (m5.mono (by omega))
    simp only [is_2, is_1, is_Isi, is_B, is_Cons, is_Nil, is_Get, is_Var, vi_sh, is_C, is_Tup, is_Lst, is_Ite, is_And, is_Or, is_Call, is_Seq', is_L, is_Sl, pi_none, pi_some, ex_int, is_Chain, is_Lc, is_few, is_slNil, is_slSh, is_slOw, si_nx, si_rt, si_Seq, si_Skip, si_Break, si_Cont, si_RetN, si_Asg, si_Ret, si_Do, si_If, si_For, si_AsgT, si_Put, si_Rel, si_App, ai_ow, si_AsgO, si_Par, is_Dict, is_Attr, ti_obj, is_Make, is_Meth, mi_obj, is_LenO, ni_obj, ni_tup, ni_lst, is_EqO, ei_obj, ei_tup, ei_lst, ei_int, is_IxO, xi_obj, xi_tup, xi_lst, si_SetA, ui_ob, is_Lc2, is_fnF, is_fnI, bi_t, bi_f, oi_some, List.getElem?_cons_zero, List.getElem?_cons_succ, List.set_cons_zero, List.set_cons_succ, List.length_cons, List.length_nil, Nat.reduceAdd, Nat.reduceLeDiff, true_and, and_true, lk_self, tg_name, tg_tup, tg_cons, tg_nil, Option.bind_some, List.cons_append, List.nil_append, setE_nil, setE_cons, wipe_nil, wipe_cons, setS_nil, setS_cons, add_int, sub_int, neg_int, lt_int, le_int, gt_int, ge_int, not_bl, dEq_int, dNe_int, pow6, pow7, pow8, pow9, pow10, pow18, int1, len_lst, len_tup, tuple_lst, list_tup, seq_lst, seq_tup, seq_scr, enum_lst, enum_tup, min_int, max_int]
    rw [dNe_nilD (n := 1) (fun d hd => by obtain ⟨s, _, rfl⟩ := List.mem_map.mp hd; exact pn_shot s) (by decide), oi_some, bi_dec]
    refine ⟨fun hne => ?_, fun _ => ?_⟩
    · have hne : 0 < (shotsOf cs).length := by
        rcases Nat.eq_zero_or_pos (shotsOf cs).length with z | z
        · rw [List.length_eq_zero_iff] at z
          rw [z] at hne
          exact absurd rfl hne
        · exact z
      refine draw_spec m (by omega) (by decide) (by decide) fun w st3 w0 w1 m3 => ?_
      have e : ∃ n : Nat, n ≤ 12 ∧ dIx (.lst [.int 0, .int 1, .int 3, .int 12]) (.int w) = some (.int (n : Int)) := by
        rcases (show w = 0 ∨ w = 1 ∨ w = 2 ∨ w = 3 by omega) with rfl | rfl | rfl | rfl
        · exact ⟨0, by decide, rfl⟩
        · exact ⟨1, by decide, rfl⟩
        · exact ⟨3, by decide, rfl⟩
        · exact ⟨12, by decide, rfl⟩
      obtain ⟨n, hn, e⟩ := e
      rw [e, oi_some, range_nat (by omega), oi_some, rangeD_map]
      refine for_T (fun r env st => ∃ ts e3 e7, env = [some (.sh (.loc 0)), some (.sh (.tup (cs.map dStamps))), e2, e3, some (.ow (bs.map dPair)), some (.ow (ts.map dTie)), some (.sh (.lst ((shotsOf cs).map dShot))), e7] ∧ ts.length + r.length = n ∧ (∀ t ∈ ts, OkTie cs t) ∧ Mst (a + 627 + ts.length * 5) rest st) ?_ ?_ ⟨[], none, e7, rfl, by simp, (fun _ z => by cases z), m3.mono (by simp; omega)⟩
      · rintro i r env st _ ⟨ts, e3, e7, rfl, hl2, ht, m⟩
        rw [List.length_cons] at hl2
        simp only [is_2, is_1, is_Isi, is_B, is_Cons, is_Nil, is_Get, is_Var, vi_sh, is_C, is_Tup, is_Lst, is_Ite, is_And, is_Or, is_Call, is_Seq', is_L, is_Sl, pi_none, pi_some, ex_int, is_Chain, is_Lc, is_few, is_slNil, is_slSh, is_slOw, si_nx, si_rt, si_Seq, si_Skip, si_Break, si_Cont, si_RetN, si_Asg, si_Ret, si_Do, si_If, si_For, si_AsgT, si_Put, si_Rel, si_App, ai_ow, si_AsgO, si_Par, is_Dict, is_Attr, ti_obj, is_Make, is_Meth, mi_obj, is_LenO, ni_obj, ni_tup, ni_lst, is_EqO, ei_obj, ei_tup, ei_lst, ei_int, is_IxO, xi_obj, xi_tup, xi_lst, si_SetA, ui_ob, is_Lc2, is_fnF, is_fnI, bi_t, bi_f, oi_some, List.getElem?_cons_zero, List.getElem?_cons_succ, List.set_cons_zero, List.set_cons_succ, List.length_cons, List.length_nil, Nat.reduceAdd, Nat.reduceLeDiff, true_and, and_true, lk_self, tg_name, tg_tup, tg_cons, tg_nil, Option.bind_some, List.cons_append, List.nil_append, setE_nil, setE_cons, wipe_nil, wipe_cons, setS_nil, setS_cons, add_int, sub_int, neg_int, lt_int, le_int, gt_int, ge_int, not_bl, dEq_int, dNe_int, pow6, pow7, pow8, pow9, pow10, pow18, int1, len_lst, len_tup, tuple_lst, list_tup, seq_lst, seq_tup, seq_scr, enum_lst, enum_tup, min_int, max_int, List.length_map]
        refine wide_spec m (by omega) (by decide) fun x st3 x0 x1 m3 => ?_
        refine draw_spec m3 (by omega) (by decide) (by decide) fun y st4 y0 y1 m4 => ?_
        simp (disch := decide) only [is_2, is_1, is_Isi, is_B, is_Cons, is_Nil, is_Get, is_Var, vi_sh, is_C, is_Tup, is_Lst, is_Ite, is_And, is_Or, is_Call, is_Seq', is_L, is_Sl, pi_none, pi_some, ex_int, is_Chain, is_Lc, is_few, is_slNil, is_slSh, is_slOw, si_nx, si_rt, si_Seq, si_Skip, si_Break, si_Cont, si_RetN, si_Asg, si_Ret, si_Do, si_If, si_For, si_AsgT, si_Put, si_Rel, si_App, ai_ow, si_AsgO, si_Par, is_Dict, is_Attr, ti_obj, is_Make, is_Meth, mi_obj, is_LenO, ni_obj, ni_tup, ni_lst, is_EqO, ei_obj, ei_tup, ei_lst, ei_int, is_IxO, xi_obj, xi_tup, xi_lst, si_SetA, ui_ob, is_Lc2, is_fnF, is_fnI, bi_t, bi_f, oi_some, List.getElem?_cons_zero, List.getElem?_cons_succ, List.set_cons_zero, List.set_cons_succ, List.length_cons, List.length_nil, Nat.reduceAdd, Nat.reduceLeDiff, true_and, and_true, lk_self, tg_name, tg_tup, tg_cons, tg_nil, Option.bind_some, List.cons_append, List.nil_append, setE_nil, setE_cons, wipe_nil, wipe_cons, setS_nil, setS_cons, add_int, sub_int, neg_int, lt_int, le_int, gt_int, ge_int, not_bl, dEq_int, dNe_int, pow6, pow7, pow8, pow9, pow10, pow18, int1, len_lst, len_tup, tuple_lst, list_tup, seq_lst, seq_tup, seq_scr, enum_lst, enum_tup, min_int, max_int, mul_r, sort2, ix2_0, ix2_1]
        have hs := shotsOf_len cs
        have q1 : -10000000000 ≤ min x (y * 5 * 1000000000 - 10000000000) ∧ min x (y * 5 * 1000000000 - 10000000000) ≤ max x (y * 5 * 1000000000 - 10000000000) ∧ max x (y * 5 * 1000000000 - 10000000000) ≤ 10000000000 := by omega
        generalize min x (y * 5 * 1000000000 - 10000000000) = u at q1 ⊢
        generalize max x (y * 5 * 1000000000 - 10000000000) = v at q1 ⊢
        refine draw_spec m4 (by omega) (by omega) (by omega) fun z st5 z0 z1 m5 => ?_
        obtain ⟨s, hs, e⟩ := ix_mapL (enc := dShot) z0 z1
        rw [e, oi_some]
        refine draw_spec m5 (by omega) (by omega) (by omega) fun z' st6 z0' z1' m6 => ?_
        obtain ⟨s', hs', e⟩ := ix_mapL (enc := dShot) z0' z1'
        rw [e, oi_some]
        rw [show ts.map dTie ++ [Dat.tup [dShot s, dShot s', .int u, .int v]] = (ts ++ [(⟨s, s', u, v⟩ : Tie)]).map dTie by simp]
        refine ⟨by omega, ts ++ [⟨s, s', u, v⟩], _, _, rfl, by simp; omega, fun b hb' => ?_, m6.mono (by simp; omega)⟩
        rcases List.mem_append.mp hb' with z | z
        · exact ht b z
        · rw [List.mem_singleton.mp z]
          exact ⟨mem_shotsOf.mp hs, mem_shotsOf.mp hs', q1⟩
      · rintro env st ⟨ts, e3, e7, rfl, hl2, ht, m⟩
        rw [List.length_nil] at hl2
        have q := fin ts e3 e7 st (by omega) ht (m.mono (by omega))
        simp only [is_2, is_1, is_Isi, is_B, is_Cons, is_Nil, is_Get, is_Var, vi_sh, is_C, is_Tup, is_Lst, is_Ite, is_And, is_Or, is_Call, is_Seq', is_L, is_Sl, pi_none, pi_some, ex_int, is_Chain, is_Lc, is_few, is_slNil, is_slSh, is_slOw, si_nx, si_rt, si_Seq, si_Skip, si_Break, si_Cont, si_RetN, si_Asg, si_Ret, si_Do, si_If, si_For, si_AsgT, si_Put, si_Rel, si_App, ai_ow, si_AsgO, si_Par, is_Dict, is_Attr, ti_obj, is_Make, is_Meth, mi_obj, is_LenO, ni_obj, ni_tup, ni_lst, is_EqO, ei_obj, ei_tup, ei_lst, ei_int, is_IxO, xi_obj, xi_tup, xi_lst, si_SetA, ui_ob, is_Lc2, is_fnF, is_fnI, bi_t, bi_f, oi_some, List.getElem?_cons_zero, List.getElem?_cons_succ, List.set_cons_zero, List.set_cons_succ, List.length_cons, List.length_nil, Nat.reduceAdd, Nat.reduceLeDiff, true_and, and_true, lk_self, tg_name, tg_tup, tg_cons, tg_nil, Option.bind_some, List.cons_append, List.nil_append, setE_nil, setE_cons, wipe_nil, wipe_cons, setS_nil, setS_cons, add_int, sub_int, neg_int, lt_int, le_int, gt_int, ge_int, not_bl, dEq_int, dNe_int, pow6, pow7, pow8, pow9, pow10, pow18, int1, len_lst, len_tup, tuple_lst, list_tup, seq_lst, seq_tup, seq_scr, enum_lst, enum_tup, min_int, max_int, relE] at q ⊢
        exact q
    · have q := fin [] none e7 st (by simp) (fun _ z => by cases z) (m.mono (by omega))
      rw [show dRange1 [.int 0] = some [] from rfl, oi_some]
      show sI (SOut.nx _ _) _
      simp only [is_2, is_1, is_Isi, is_B, is_Cons, is_Nil, is_Get, is_Var, vi_sh, is_C, is_Tup, is_Lst, is_Ite, is_And, is_Or, is_Call, is_Seq', is_L, is_Sl, pi_none, pi_some, ex_int, is_Chain, is_Lc, is_few, is_slNil, is_slSh, is_slOw, si_nx, si_rt, si_Seq, si_Skip, si_Break, si_Cont, si_RetN, si_Asg, si_Ret, si_Do, si_If, si_For, si_AsgT, si_Put, si_Rel, si_App, ai_ow, si_AsgO, si_Par, is_Dict, is_Attr, ti_obj, is_Make, is_Meth, mi_obj, is_LenO, ni_obj, ni_tup, ni_lst, is_EqO, ei_obj, ei_tup, ei_lst, ei_int, is_IxO, xi_obj, xi_tup, xi_lst, si_SetA, ui_ob, is_Lc2, is_fnF, is_fnI, bi_t, bi_f, oi_some, List.getElem?_cons_zero, List.getElem?_cons_succ, List.set_cons_zero, List.set_cons_succ, List.length_cons, List.length_nil, Nat.reduceAdd, Nat.reduceLeDiff, true_and, and_true, lk_self, tg_name, tg_tup, tg_cons, tg_nil, Option.bind_some, List.cons_append, List.nil_append, setE_nil, setE_cons, wipe_nil, wipe_cons, setS_nil, setS_cons, add_int, sub_int, neg_int, lt_int, le_int, gt_int, ge_int, not_bl, dEq_int, dNe_int, pow6, pow7, pow8, pow9, pow10, pow18, int1, len_lst, len_tup, tuple_lst, list_tup, seq_lst, seq_tup, seq_scr, enum_lst, enum_tup, min_int, max_int, relE] at q ⊢
      exact q
end LW
set_option Elab.async false
set_option linter.all false
set_option maxRecDepth 100000
set_option maxHeartbeats 2000000
namespace LW
open PySem GI GP
/-- data whose kind is known all through -/
inductive WT : Dat → Prop
  | non : WT .non
  | bl (b : Bool) : WT (.bl b)
  | int (i : Int) : WT (.int i)
  | str (x : Str) : WT (.str x)
  | tup {ds : List Dat} : (∀ d ∈ ds, WT d) → WT (.tup ds)
  | lst {ds : List Dat} : (∀ d ∈ ds, WT d) → WT (.lst ds)
theorem Pn.wt : ∀ {n : Nat} {d : Dat}, Pn n d → WT d
  | _, _, .non _ => .non
  | _, _, .int _ i => .int i
  | _, _, .str _ x => .str x
  | _, _, .tup h => .tup fun d hd => Pn.wt (h d hd)
  | _, _, .lst h => .lst fun d hd => Pn.wt (h d hd)
def isTupD : Dat → Bool
  | .tup _ => true
  | _ => false
def isIntD : Dat → Bool
  | .int _ => true
  | .bl _ => true
  | _ => false
def isBlD : Dat → Bool
  | .bl _ => true
  | _ => false
theorem isi_tup {d : Dat} (h : WT d) : dIsi "tuple" d = some (.bl (isTupD d)) := by
  cases h <;> rfl
theorem isi_int {d : Dat} (h : WT d) : dIsi "int" d = some (.bl (isIntD d)) := by
  cases h <;> rfl
theorem isi_bool {d : Dat} (h : WT d) : dIsi "bool" d = some (.bl (isBlD d)) := by
  cases h <;> rfl
def wholeD (lo hi : Int) : Dat → Bool
  | .int i => decide (lo ≤ i ∧ i ≤ hi)
  | _ => false
theorem whole_spec {d : Dat} {lo hi : Int} {st : Sto} {R : Dat → Sto → Prop} {E : XP} (h : WT d) : Is (F_p_is_whole [d, .int lo, .int hi] st) R E ↔ R (.bl (wholeD lo hi d)) st := by
  unfold F_p_is_whole b_p_is_whole_den
  simp only [is_2, is_1, is_Isi, is_B, is_Cons, is_Nil, is_Get, is_Var, vi_sh, is_C, is_Tup, is_Lst, is_Ite, is_And, is_Or, is_Call, is_Seq', is_L, is_Sl, pi_none, pi_some, ex_int, is_Chain, is_Lc, is_few, is_slNil, is_slSh, is_slOw, si_nx, si_rt, si_Seq, si_Skip, si_Break, si_Cont, si_RetN, si_Asg, si_Ret, si_Do, si_If, si_For, si_AsgT, si_Put, si_Rel, si_App, ai_ow, si_AsgO, si_Par, is_Dict, is_Attr, ti_obj, is_Make, is_Meth, mi_obj, is_LenO, ni_obj, ni_tup, ni_lst, is_EqO, ei_obj, ei_tup, ei_lst, ei_int, is_IxO, xi_obj, xi_tup, xi_lst, si_SetA, ui_ob, is_Lc2, is_fnF, is_fnI, bi_t, bi_f, oi_some, List.getElem?_cons_zero, List.getElem?_cons_succ, List.set_cons_zero, List.set_cons_succ, List.length_cons, List.length_nil, Nat.reduceAdd, Nat.reduceLeDiff, true_and, and_true, lk_self, tg_name, tg_tup, tg_cons, tg_nil, Option.bind_some, List.cons_append, List.nil_append, setE_nil, setE_cons, wipe_nil, wipe_cons, setS_nil, setS_cons, add_int, sub_int, neg_int, lt_int, le_int, gt_int, ge_int, not_bl, dEq_int, dNe_int, pow6, pow7, pow8, pow9, pow10, pow18, int1, len_lst, len_tup, tuple_lst, list_tup, seq_lst, seq_tup, seq_scr, enum_lst, enum_tup, min_int, max_int, ev_1_1, ev_1_2, ev_2_2, ev_1_3, ev_2_3, ev_3_3, ev_1_4, ev_2_4, ev_3_4, ev_4_4, ev_1_5, ev_2_5, ev_3_5, ev_4_5, ev_5_5, ev_1_6, ev_2_6, ev_3_6, ev_4_6, ev_5_6, ev_6_6, ev_1_7, ev_2_7, ev_3_7, ev_4_7, ev_5_7, ev_6_7, ev_7_7, ev_1_8, ev_2_8, ev_3_8, ev_4_8, ev_5_8, ev_6_8, ev_7_8, ev_8_8, ev_1_9, ev_2_9, ev_3_9, ev_4_9, ev_5_9, ev_6_9, ev_7_9, ev_8_9, ev_1_10, ev_2_10, ev_3_10, ev_4_10, ev_5_10, ev_6_10, ev_7_10, ev_8_10, ev_1_11, ev_2_11, ev_3_11, ev_4_11, ev_5_11, ev_6_11, ev_7_11, ev_8_11, ev_1_12, ev_2_12, ev_3_12, ev_4_12, ev_5_12, ev_6_12, ev_7_12, ev_8_12, ev_1_13, ev_2_13, ev_3_13, ev_4_13, ev_5_13, ev_6_13, ev_7_13, ev_8_13, ev_1_14, ev_2_14, ev_3_14, ev_4_14, ev_5_14, ev_6_14, ev_7_14, ev_8_14, ev_1_15, ev_2_15, ev_3_15, ev_4_15, ev_5_15, ev_6_15, ev_7_15, ev_8_15, ev_1_16, ev_2_16, ev_3_16, ev_4_16, ev_5_16, ev_6_16, ev_7_16, ev_8_16, ev_1_17, ev_2_17, ev_3_17, ev_4_17, ev_5_17, ev_6_17, ev_7_17, ev_8_17, ev_1_18, ev_2_18, ev_3_18, ev_4_18, ev_5_18, ev_6_18, ev_7_18, ev_8_18, ev_1_19, ev_2_19, ev_3_19, ev_4_19, ev_5_19, ev_6_19, ev_7_19, ev_8_19, ev_1_20, ev_2_20, ev_3_20, ev_4_20, ev_5_20, ev_6_20, ev_7_20, ev_8_20, ev_1_21, ev_2_21, ev_3_21, ev_4_21, ev_5_21, ev_6_21, ev_7_21, ev_8_21, isi_int h, isi_bool h]
  cases h with
  | int i =>
    simp only [isIntD, isBlD, is_2, is_1, is_Isi, is_B, is_Cons, is_Nil, is_Get, is_Var, vi_sh, is_C, is_Tup, is_Lst, is_Ite, is_And, is_Or, is_Call, is_Seq', is_L, is_Sl, pi_none, pi_some, ex_int, is_Chain, is_Lc, is_few, is_slNil, is_slSh, is_slOw, si_nx, si_rt, si_Seq, si_Skip, si_Break, si_Cont, si_RetN, si_Asg, si_Ret, si_Do, si_If, si_For, si_AsgT, si_Put, si_Rel, si_App, ai_ow, si_AsgO, si_Par, is_Dict, is_Attr, ti_obj, is_Make, is_Meth, mi_obj, is_LenO, ni_obj, ni_tup, ni_lst, is_EqO, ei_obj, ei_tup, ei_lst, ei_int, is_IxO, xi_obj, xi_tup, xi_lst, si_SetA, ui_ob, is_Lc2, is_fnF, is_fnI, bi_t, bi_f, oi_some, List.getElem?_cons_zero, List.getElem?_cons_succ, List.set_cons_zero, List.set_cons_succ, List.length_cons, List.length_nil, Nat.reduceAdd, Nat.reduceLeDiff, true_and, and_true, lk_self, tg_name, tg_tup, tg_cons, tg_nil, Option.bind_some, List.cons_append, List.nil_append, setE_nil, setE_cons, wipe_nil, wipe_cons, setS_nil, setS_cons, add_int, sub_int, neg_int, lt_int, le_int, gt_int, ge_int, not_bl, dEq_int, dNe_int, pow6, pow7, pow8, pow9, pow10, pow18, int1, len_lst, len_tup, tuple_lst, list_tup, seq_lst, seq_tup, seq_scr, enum_lst, enum_tup, min_int, max_int, Bool.not_false, wholeD]
    by_cases z : lo ≤ i
    · simp [z, bI, oI]
    · simp [z, bI, oI]
  | bl b => simp only [isIntD, isBlD, is_2, is_1, is_Isi, is_B, is_Cons, is_Nil, is_Get, is_Var, vi_sh, is_C, is_Tup, is_Lst, is_Ite, is_And, is_Or, is_Call, is_Seq', is_L, is_Sl, pi_none, pi_some, ex_int, is_Chain, is_Lc, is_few, is_slNil, is_slSh, is_slOw, si_nx, si_rt, si_Seq, si_Skip, si_Break, si_Cont, si_RetN, si_Asg, si_Ret, si_Do, si_If, si_For, si_AsgT, si_Put, si_Rel, si_App, ai_ow, si_AsgO, si_Par, is_Dict, is_Attr, ti_obj, is_Make, is_Meth, mi_obj, is_LenO, ni_obj, ni_tup, ni_lst, is_EqO, ei_obj, ei_tup, ei_lst, ei_int, is_IxO, xi_obj, xi_tup, xi_lst, si_SetA, ui_ob, is_Lc2, is_fnF, is_fnI, bi_t, bi_f, oi_some, List.getElem?_cons_zero, List.getElem?_cons_succ, List.set_cons_zero, List.set_cons_succ, List.length_cons, List.length_nil, Nat.reduceAdd, Nat.reduceLeDiff, true_and, and_true, lk_self, tg_name, tg_tup, tg_cons, tg_nil, Option.bind_some, List.cons_append, List.nil_append, setE_nil, setE_cons, wipe_nil, wipe_cons, setS_nil, setS_cons, add_int, sub_int, neg_int, lt_int, le_int, gt_int, ge_int, not_bl, dEq_int, dNe_int, pow6, pow7, pow8, pow9, pow10, pow18, int1, len_lst, len_tup, tuple_lst, list_tup, seq_lst, seq_tup, seq_scr, enum_lst, enum_tup, min_int, max_int, Bool.not_true, wholeD]
  | _ => simp only [isIntD, isBlD, is_2, is_1, is_Isi, is_B, is_Cons, is_Nil, is_Get, is_Var, vi_sh, is_C, is_Tup, is_Lst, is_Ite, is_And, is_Or, is_Call, is_Seq', is_L, is_Sl, pi_none, pi_some, ex_int, is_Chain, is_Lc, is_few, is_slNil, is_slSh, is_slOw, si_nx, si_rt, si_Seq, si_Skip, si_Break, si_Cont, si_RetN, si_Asg, si_Ret, si_Do, si_If, si_For, si_AsgT, si_Put, si_Rel, si_App, ai_ow, si_AsgO, si_Par, is_Dict, is_Attr, ti_obj, is_Make, is_Meth, mi_obj, is_LenO, ni_obj, ni_tup, ni_lst, is_EqO, ei_obj, ei_tup, ei_lst, ei_int, is_IxO, xi_obj, xi_tup, xi_lst, si_SetA, ui_ob, is_Lc2, is_fnF, is_fnI, bi_t, bi_f, oi_some, List.getElem?_cons_zero, List.getElem?_cons_succ, List.set_cons_zero, List.set_cons_succ, List.length_cons, List.length_nil, Nat.reduceAdd, Nat.reduceLeDiff, true_and, and_true, lk_self, tg_name, tg_tup, tg_cons, tg_nil, Option.bind_some, List.cons_append, List.nil_append, setE_nil, setE_cons, wipe_nil, wipe_cons, setS_nil, setS_cons, add_int, sub_int, neg_int, lt_int, le_int, gt_int, ge_int, not_bl, dEq_int, dNe_int, pow6, pow7, pow8, pow9, pow10, pow18, int1, len_lst, len_tup, tuple_lst, list_tup, seq_lst, seq_tup, seq_scr, enum_lst, enum_tup, min_int, max_int, wholeD]
def pairD : Dat → Bool
  | .tup [_, _] => true
  | _ => false
theorem pair_spec {d : Dat} {st : Sto} {R : Dat → Sto → Prop} {E : XP} (h : WT d) : Is (F_p_is_pair [d] st) R E ↔ R (.bl (pairD d)) st := by
  unfold F_p_is_pair b_p_is_pair_den
  simp only [is_2, is_1, is_Isi, is_B, is_Cons, is_Nil, is_Get, is_Var, vi_sh, is_C, is_Tup, is_Lst, is_Ite, is_And, is_Or, is_Call, is_Seq', is_L, is_Sl, pi_none, pi_some, ex_int, is_Chain, is_Lc, is_few, is_slNil, is_slSh, is_slOw, si_nx, si_rt, si_Seq, si_Skip, si_Break, si_Cont, si_RetN, si_Asg, si_Ret, si_Do, si_If, si_For, si_AsgT, si_Put, si_Rel, si_App, ai_ow, si_AsgO, si_Par, is_Dict, is_Attr, ti_obj, is_Make, is_Meth, mi_obj, is_LenO, ni_obj, ni_tup, ni_lst, is_EqO, ei_obj, ei_tup, ei_lst, ei_int, is_IxO, xi_obj, xi_tup, xi_lst, si_SetA, ui_ob, is_Lc2, is_fnF, is_fnI, bi_t, bi_f, oi_some, List.getElem?_cons_zero, List.getElem?_cons_succ, List.set_cons_zero, List.set_cons_succ, List.length_cons, List.length_nil, Nat.reduceAdd, Nat.reduceLeDiff, true_and, and_true, lk_self, tg_name, tg_tup, tg_cons, tg_nil, Option.bind_some, List.cons_append, List.nil_append, setE_nil, setE_cons, wipe_nil, wipe_cons, setS_nil, setS_cons, add_int, sub_int, neg_int, lt_int, le_int, gt_int, ge_int, not_bl, dEq_int, dNe_int, pow6, pow7, pow8, pow9, pow10, pow18, int1, len_lst, len_tup, tuple_lst, list_tup, seq_lst, seq_tup, seq_scr, enum_lst, enum_tup, min_int, max_int, ev_1_1, ev_1_2, ev_2_2, ev_1_3, ev_2_3, ev_3_3, ev_1_4, ev_2_4, ev_3_4, ev_4_4, ev_1_5, ev_2_5, ev_3_5, ev_4_5, ev_5_5, ev_1_6, ev_2_6, ev_3_6, ev_4_6, ev_5_6, ev_6_6, ev_1_7, ev_2_7, ev_3_7, ev_4_7, ev_5_7, ev_6_7, ev_7_7, ev_1_8, ev_2_8, ev_3_8, ev_4_8, ev_5_8, ev_6_8, ev_7_8, ev_8_8, ev_1_9, ev_2_9, ev_3_9, ev_4_9, ev_5_9, ev_6_9, ev_7_9, ev_8_9, ev_1_10, ev_2_10, ev_3_10, ev_4_10, ev_5_10, ev_6_10, ev_7_10, ev_8_10, ev_1_11, ev_2_11, ev_3_11, ev_4_11, ev_5_11, ev_6_11, ev_7_11, ev_8_11, ev_1_12, ev_2_12, ev_3_12, ev_4_12, ev_5_12, ev_6_12, ev_7_12, ev_8_12, ev_1_13, ev_2_13, ev_3_13, ev_4_13, ev_5_13, ev_6_13, ev_7_13, ev_8_13, ev_1_14, ev_2_14, ev_3_14, ev_4_14, ev_5_14, ev_6_14, ev_7_14, ev_8_14, ev_1_15, ev_2_15, ev_3_15, ev_4_15, ev_5_15, ev_6_15, ev_7_15, ev_8_15, ev_1_16, ev_2_16, ev_3_16, ev_4_16, ev_5_16, ev_6_16, ev_7_16, ev_8_16, ev_1_17, ev_2_17, ev_3_17, ev_4_17, ev_5_17, ev_6_17, ev_7_17, ev_8_17, ev_1_18, ev_2_18, ev_3_18, ev_4_18, ev_5_18, ev_6_18, ev_7_18, ev_8_18, ev_1_19, ev_2_19, ev_3_19, ev_4_19, ev_5_19, ev_6_19, ev_7_19, ev_8_19, ev_1_20, ev_2_20, ev_3_20, ev_4_20, ev_5_20, ev_6_20, ev_7_20, ev_8_20, ev_1_21, ev_2_21, ev_3_21, ev_4_21, ev_5_21, ev_6_21, ev_7_21, ev_8_21, isi_tup h]
  cases h with
  | tup h =>
    rename_i ds
    simp only [isTupD, is_2, is_1, is_Isi, is_B, is_Cons, is_Nil, is_Get, is_Var, vi_sh, is_C, is_Tup, is_Lst, is_Ite, is_And, is_Or, is_Call, is_Seq', is_L, is_Sl, pi_none, pi_some, ex_int, is_Chain, is_Lc, is_few, is_slNil, is_slSh, is_slOw, si_nx, si_rt, si_Seq, si_Skip, si_Break, si_Cont, si_RetN, si_Asg, si_Ret, si_Do, si_If, si_For, si_AsgT, si_Put, si_Rel, si_App, ai_ow, si_AsgO, si_Par, is_Dict, is_Attr, ti_obj, is_Make, is_Meth, mi_obj, is_LenO, ni_obj, ni_tup, ni_lst, is_EqO, ei_obj, ei_tup, ei_lst, ei_int, is_IxO, xi_obj, xi_tup, xi_lst, si_SetA, ui_ob, is_Lc2, is_fnF, is_fnI, bi_t, bi_f, oi_some, List.getElem?_cons_zero, List.getElem?_cons_succ, List.set_cons_zero, List.set_cons_succ, List.length_cons, List.length_nil, Nat.reduceAdd, Nat.reduceLeDiff, true_and, and_true, lk_self, tg_name, tg_tup, tg_cons, tg_nil, Option.bind_some, List.cons_append, List.nil_append, setE_nil, setE_cons, wipe_nil, wipe_cons, setS_nil, setS_cons, add_int, sub_int, neg_int, lt_int, le_int, gt_int, ge_int, not_bl, dEq_int, dNe_int, pow6, pow7, pow8, pow9, pow10, pow18, int1, len_lst, len_tup, tuple_lst, list_tup, seq_lst, seq_tup, seq_scr, enum_lst, enum_tup, min_int, max_int]
    match ds with
    | [] => simp [pairD]
    | [_] => simp [pairD]
    | [_, _] => simp [pairD]
    | _ :: _ :: _ :: r =>
      simp only [pairD]
      rw [decide_eq_false (by simp; omega)]
  | _ => simp only [isTupD, is_2, is_1, is_Isi, is_B, is_Cons, is_Nil, is_Get, is_Var, vi_sh, is_C, is_Tup, is_Lst, is_Ite, is_And, is_Or, is_Call, is_Seq', is_L, is_Sl, pi_none, pi_some, ex_int, is_Chain, is_Lc, is_few, is_slNil, is_slSh, is_slOw, si_nx, si_rt, si_Seq, si_Skip, si_Break, si_Cont, si_RetN, si_Asg, si_Ret, si_Do, si_If, si_For, si_AsgT, si_Put, si_Rel, si_App, ai_ow, si_AsgO, si_Par, is_Dict, is_Attr, ti_obj, is_Make, is_Meth, mi_obj, is_LenO, ni_obj, ni_tup, ni_lst, is_EqO, ei_obj, ei_tup, ei_lst, ei_int, is_IxO, xi_obj, xi_tup, xi_lst, si_SetA, ui_ob, is_Lc2, is_fnF, is_fnI, bi_t, bi_f, oi_some, List.getElem?_cons_zero, List.getElem?_cons_succ, List.set_cons_zero, List.set_cons_succ, List.length_cons, List.length_nil, Nat.reduceAdd, Nat.reduceLeDiff, true_and, and_true, lk_self, tg_name, tg_tup, tg_cons, tg_nil, Option.bind_some, List.cons_append, List.nil_append, setE_nil, setE_cons, wipe_nil, wipe_cons, setS_nil, setS_cons, add_int, sub_int, neg_int, lt_int, le_int, gt_int, ge_int, not_bl, dEq_int, dNe_int, pow6, pow7, pow8, pow9, pow10, pow18, int1, len_lst, len_tup, tuple_lst, list_tup, seq_lst, seq_tup, seq_scr, enum_lst, enum_tup, min_int, max_int, pairD]
def shotD (cs : Cams) : Dat → Bool
  | .tup [.int i, b] => decide (0 ≤ i ∧ i < cs.length) && wholeD 0 (((cs.getD i.toNat []).length : Int) - 1) b
  | _ => false
theorem camera_spec {cs : Cams} {d : Dat} {st : Sto} {R : Dat → Sto → Prop} {E : XP} (h : WT d) : Is (F_p_is_camera [dCams cs, d] st) R E ↔ R (.bl (wholeD 0 ((cs.length : Int) - 1) d)) st := by
  unfold F_p_is_camera b_p_is_camera_den dCams
  simp only [is_2, is_1, is_Isi, is_B, is_Cons, is_Nil, is_Get, is_Var, vi_sh, is_C, is_Tup, is_Lst, is_Ite, is_And, is_Or, is_Call, is_Seq', is_L, is_Sl, pi_none, pi_some, ex_int, is_Chain, is_Lc, is_few, is_slNil, is_slSh, is_slOw, si_nx, si_rt, si_Seq, si_Skip, si_Break, si_Cont, si_RetN, si_Asg, si_Ret, si_Do, si_If, si_For, si_AsgT, si_Put, si_Rel, si_App, ai_ow, si_AsgO, si_Par, is_Dict, is_Attr, ti_obj, is_Make, is_Meth, mi_obj, is_LenO, ni_obj, ni_tup, ni_lst, is_EqO, ei_obj, ei_tup, ei_lst, ei_int, is_IxO, xi_obj, xi_tup, xi_lst, si_SetA, ui_ob, is_Lc2, is_fnF, is_fnI, bi_t, bi_f, oi_some, List.getElem?_cons_zero, List.getElem?_cons_succ, List.set_cons_zero, List.set_cons_succ, List.length_cons, List.length_nil, Nat.reduceAdd, Nat.reduceLeDiff, true_and, and_true, lk_self, tg_name, tg_tup, tg_cons, tg_nil, Option.bind_some, List.cons_append, List.nil_append, setE_nil, setE_cons, wipe_nil, wipe_cons, setS_nil, setS_cons, add_int, sub_int, neg_int, lt_int, le_int, gt_int, ge_int, not_bl, dEq_int, dNe_int, pow6, pow7, pow8, pow9, pow10, pow18, int1, len_lst, len_tup, tuple_lst, list_tup, seq_lst, seq_tup, seq_scr, enum_lst, enum_tup, min_int, max_int, ev_1_1, ev_1_2, ev_2_2, ev_1_3, ev_2_3, ev_3_3, ev_1_4, ev_2_4, ev_3_4, ev_4_4, ev_1_5, ev_2_5, ev_3_5, ev_4_5, ev_5_5, ev_1_6, ev_2_6, ev_3_6, ev_4_6, ev_5_6, ev_6_6, ev_1_7, ev_2_7, ev_3_7, ev_4_7, ev_5_7, ev_6_7, ev_7_7, ev_1_8, ev_2_8, ev_3_8, ev_4_8, ev_5_8, ev_6_8, ev_7_8, ev_8_8, ev_1_9, ev_2_9, ev_3_9, ev_4_9, ev_5_9, ev_6_9, ev_7_9, ev_8_9, ev_1_10, ev_2_10, ev_3_10, ev_4_10, ev_5_10, ev_6_10, ev_7_10, ev_8_10, ev_1_11, ev_2_11, ev_3_11, ev_4_11, ev_5_11, ev_6_11, ev_7_11, ev_8_11, ev_1_12, ev_2_12, ev_3_12, ev_4_12, ev_5_12, ev_6_12, ev_7_12, ev_8_12, ev_1_13, ev_2_13, ev_3_13, ev_4_13, ev_5_13, ev_6_13, ev_7_13, ev_8_13, ev_1_14, ev_2_14, ev_3_14, ev_4_14, ev_5_14, ev_6_14, ev_7_14, ev_8_14, ev_1_15, ev_2_15, ev_3_15, ev_4_15, ev_5_15, ev_6_15, ev_7_15, ev_8_15, ev_1_16, ev_2_16, ev_3_16, ev_4_16, ev_5_16, ev_6_16, ev_7_16, ev_8_16, ev_1_17, ev_2_17, ev_3_17, ev_4_17, ev_5_17, ev_6_17, ev_7_17, ev_8_17, ev_1_18, ev_2_18, ev_3_18, ev_4_18, ev_5_18, ev_6_18, ev_7_18, ev_8_18, ev_1_19, ev_2_19, ev_3_19, ev_4_19, ev_5_19, ev_6_19, ev_7_19, ev_8_19, ev_1_20, ev_2_20, ev_3_20, ev_4_20, ev_5_20, ev_6_20, ev_7_20, ev_8_20, ev_1_21, ev_2_21, ev_3_21, ev_4_21, ev_5_21, ev_6_21, ev_7_21, ev_8_21, List.length_map, whole_spec h]
theorem ixt2_0 {x y : Dat} : dIx (.tup [x, y]) (.int 0) = some x := rfl
theorem ixt2_1 {x y : Dat} : dIx (.tup [x, y]) (.int 1) = some y := rfl
theorem ix_cams {cs : Cams} {i : Int} (h0 : 0 ≤ i) (h1 : i < cs.length) : dIx (dCams cs) (.int i) = some (dStamps (cs.getD i.toNat [])) := by
  have h2 : i.toNat < cs.length := by omega
  unfold dCams
  rw [ix_t h0 (by simpa using h1), List.getElem?_map, List.getElem?_eq_getElem h2]
  simp [List.getD, List.getElem?_eq_getElem h2]
theorem shot_spec {cs : Cams} {d : Dat} {st : Sto} {R : Dat → Sto → Prop} {E : XP} (h : WT d) : Is (F_p_is_shot [dCams cs, d] st) R E ↔ R (.bl (shotD cs d)) st := by
  unfold F_p_is_shot b_p_is_shot_den
  simp only [is_2, is_1, is_Isi, is_B, is_Cons, is_Nil, is_Get, is_Var, vi_sh, is_C, is_Tup, is_Lst, is_Ite, is_And, is_Or, is_Call, is_Seq', is_L, is_Sl, pi_none, pi_some, ex_int, is_Chain, is_Lc, is_few, is_slNil, is_slSh, is_slOw, si_nx, si_rt, si_Seq, si_Skip, si_Break, si_Cont, si_RetN, si_Asg, si_Ret, si_Do, si_If, si_For, si_AsgT, si_Put, si_Rel, si_App, ai_ow, si_AsgO, si_Par, is_Dict, is_Attr, ti_obj, is_Make, is_Meth, mi_obj, is_LenO, ni_obj, ni_tup, ni_lst, is_EqO, ei_obj, ei_tup, ei_lst, ei_int, is_IxO, xi_obj, xi_tup, xi_lst, si_SetA, ui_ob, is_Lc2, is_fnF, is_fnI, bi_t, bi_f, oi_some, List.getElem?_cons_zero, List.getElem?_cons_succ, List.set_cons_zero, List.set_cons_succ, List.length_cons, List.length_nil, Nat.reduceAdd, Nat.reduceLeDiff, true_and, and_true, lk_self, tg_name, tg_tup, tg_cons, tg_nil, Option.bind_some, List.cons_append, List.nil_append, setE_nil, setE_cons, wipe_nil, wipe_cons, setS_nil, setS_cons, add_int, sub_int, neg_int, lt_int, le_int, gt_int, ge_int, not_bl, dEq_int, dNe_int, pow6, pow7, pow8, pow9, pow10, pow18, int1, len_lst, len_tup, tuple_lst, list_tup, seq_lst, seq_tup, seq_scr, enum_lst, enum_tup, min_int, max_int, ev_1_1, ev_1_2, ev_2_2, ev_1_3, ev_2_3, ev_3_3, ev_1_4, ev_2_4, ev_3_4, ev_4_4, ev_1_5, ev_2_5, ev_3_5, ev_4_5, ev_5_5, ev_1_6, ev_2_6, ev_3_6, ev_4_6, ev_5_6, ev_6_6, ev_1_7, ev_2_7, ev_3_7, ev_4_7, ev_5_7, ev_6_7, ev_7_7, ev_1_8, ev_2_8, ev_3_8, ev_4_8, ev_5_8, ev_6_8, ev_7_8, ev_8_8, ev_1_9, ev_2_9, ev_3_9, ev_4_9, ev_5_9, ev_6_9, ev_7_9, ev_8_9, ev_1_10, ev_2_10, ev_3_10, ev_4_10, ev_5_10, ev_6_10, ev_7_10, ev_8_10, ev_1_11, ev_2_11, ev_3_11, ev_4_11, ev_5_11, ev_6_11, ev_7_11, ev_8_11, ev_1_12, ev_2_12, ev_3_12, ev_4_12, ev_5_12, ev_6_12, ev_7_12, ev_8_12, ev_1_13, ev_2_13, ev_3_13, ev_4_13, ev_5_13, ev_6_13, ev_7_13, ev_8_13, ev_1_14, ev_2_14, ev_3_14, ev_4_14, ev_5_14, ev_6_14, ev_7_14, ev_8_14, ev_1_15, ev_2_15, ev_3_15, ev_4_15, ev_5_15, ev_6_15, ev_7_15, ev_8_15, ev_1_16, ev_2_16, ev_3_16, ev_4_16, ev_5_16, ev_6_16, ev_7_16, ev_8_16, ev_1_17, ev_2_17, ev_3_17, ev_4_17, ev_5_17, ev_6_17, ev_7_17, ev_8_17, ev_1_18, ev_2_18, ev_3_18, ev_4_18, ev_5_18, ev_6_18, ev_7_18, ev_8_18, ev_1_19, ev_2_19, ev_3_19, ev_4_19, ev_5_19, ev_6_19, ev_7_19, ev_8_19, ev_1_20, ev_2_20, ev_3_20, ev_4_20, ev_5_20, ev_6_20, ev_7_20, ev_8_20, ev_1_21, ev_2_21, ev_3_21, ev_4_21, ev_5_21, ev_6_21, ev_7_21, ev_8_21, pair_spec h]
  cases hp : pairD d with
  | false =>
    have e : shotD cs d = false := by
      unfold shotD
      split
      · simp [pairD] at hp
      · rfl
    simp only [is_2, is_1, is_Isi, is_B, is_Cons, is_Nil, is_Get, is_Var, vi_sh, is_C, is_Tup, is_Lst, is_Ite, is_And, is_Or, is_Call, is_Seq', is_L, is_Sl, pi_none, pi_some, ex_int, is_Chain, is_Lc, is_few, is_slNil, is_slSh, is_slOw, si_nx, si_rt, si_Seq, si_Skip, si_Break, si_Cont, si_RetN, si_Asg, si_Ret, si_Do, si_If, si_For, si_AsgT, si_Put, si_Rel, si_App, ai_ow, si_AsgO, si_Par, is_Dict, is_Attr, ti_obj, is_Make, is_Meth, mi_obj, is_LenO, ni_obj, ni_tup, ni_lst, is_EqO, ei_obj, ei_tup, ei_lst, ei_int, is_IxO, xi_obj, xi_tup, xi_lst, si_SetA, ui_ob, is_Lc2, is_fnF, is_fnI, bi_t, bi_f, oi_some, List.getElem?_cons_zero, List.getElem?_cons_succ, List.set_cons_zero, List.set_cons_succ, List.length_cons, List.length_nil, Nat.reduceAdd, Nat.reduceLeDiff, true_and, and_true, lk_self, tg_name, tg_tup, tg_cons, tg_nil, Option.bind_some, List.cons_append, List.nil_append, setE_nil, setE_cons, wipe_nil, wipe_cons, setS_nil, setS_cons, add_int, sub_int, neg_int, lt_int, le_int, gt_int, ge_int, not_bl, dEq_int, dNe_int, pow6, pow7, pow8, pow9, pow10, pow18, int1, len_lst, len_tup, tuple_lst, list_tup, seq_lst, seq_tup, seq_scr, enum_lst, enum_tup, min_int, max_int, e]
  | true =>
    unfold pairD at hp
    split at hp
    · rename_i a b
      cases h with
      | tup h =>
        have ha := h a (by simp)
        have hb := h b (by simp)
        simp only [is_2, is_1, is_Isi, is_B, is_Cons, is_Nil, is_Get, is_Var, vi_sh, is_C, is_Tup, is_Lst, is_Ite, is_And, is_Or, is_Call, is_Seq', is_L, is_Sl, pi_none, pi_some, ex_int, is_Chain, is_Lc, is_few, is_slNil, is_slSh, is_slOw, si_nx, si_rt, si_Seq, si_Skip, si_Break, si_Cont, si_RetN, si_Asg, si_Ret, si_Do, si_If, si_For, si_AsgT, si_Put, si_Rel, si_App, ai_ow, si_AsgO, si_Par, is_Dict, is_Attr, ti_obj, is_Make, is_Meth, mi_obj, is_LenO, ni_obj, ni_tup, ni_lst, is_EqO, ei_obj, ei_tup, ei_lst, ei_int, is_IxO, xi_obj, xi_tup, xi_lst, si_SetA, ui_ob, is_Lc2, is_fnF, is_fnI, bi_t, bi_f, oi_some, List.getElem?_cons_zero, List.getElem?_cons_succ, List.set_cons_zero, List.set_cons_succ, List.length_cons, List.length_nil, Nat.reduceAdd, Nat.reduceLeDiff, true_and, and_true, lk_self, tg_name, tg_tup, tg_cons, tg_nil, Option.bind_some, List.cons_append, List.nil_append, setE_nil, setE_cons, wipe_nil, wipe_cons, setS_nil, setS_cons, add_int, sub_int, neg_int, lt_int, le_int, gt_int, ge_int, not_bl, dEq_int, dNe_int, pow6, pow7, pow8, pow9, pow10, pow18, int1, len_lst, len_tup, tuple_lst, list_tup, seq_lst, seq_tup, seq_scr, enum_lst, enum_tup, min_int, max_int, ixt2_0, ixt2_1, camera_spec ha]
        cases ha with
        | int i =>
          unfold shotD
          by_cases z : 0 ≤ i ∧ i < cs.length
          · have e : wholeD 0 ((cs.length : Int) - 1) (.int i) = true := decide_eq_true ⟨z.1, by omega⟩
            rw [e, bi_t, ix_cams z.1 z.2]
            simp only [is_2, is_1, is_Isi, is_B, is_Cons, is_Nil, is_Get, is_Var, vi_sh, is_C, is_Tup, is_Lst, is_Ite, is_And, is_Or, is_Call, is_Seq', is_L, is_Sl, pi_none, pi_some, ex_int, is_Chain, is_Lc, is_few, is_slNil, is_slSh, is_slOw, si_nx, si_rt, si_Seq, si_Skip, si_Break, si_Cont, si_RetN, si_Asg, si_Ret, si_Do, si_If, si_For, si_AsgT, si_Put, si_Rel, si_App, ai_ow, si_AsgO, si_Par, is_Dict, is_Attr, ti_obj, is_Make, is_Meth, mi_obj, is_LenO, ni_obj, ni_tup, ni_lst, is_EqO, ei_obj, ei_tup, ei_lst, ei_int, is_IxO, xi_obj, xi_tup, xi_lst, si_SetA, ui_ob, is_Lc2, is_fnF, is_fnI, bi_t, bi_f, oi_some, List.getElem?_cons_zero, List.getElem?_cons_succ, List.set_cons_zero, List.set_cons_succ, List.length_cons, List.length_nil, Nat.reduceAdd, Nat.reduceLeDiff, true_and, and_true, lk_self, tg_name, tg_tup, tg_cons, tg_nil, Option.bind_some, List.cons_append, List.nil_append, setE_nil, setE_cons, wipe_nil, wipe_cons, setS_nil, setS_cons, add_int, sub_int, neg_int, lt_int, le_int, gt_int, ge_int, not_bl, dEq_int, dNe_int, pow6, pow7, pow8, pow9, pow10, pow18, int1, len_lst, len_tup, tuple_lst, list_tup, seq_lst, seq_tup, seq_scr, enum_lst, enum_tup, min_int, max_int, List.length_map, whole_spec hb, decide_eq_true z, Bool.true_and]
          · have e : wholeD 0 ((cs.length : Int) - 1) (.int i) = false := decide_eq_false fun q => z ⟨q.1, by omega⟩
            rw [e, bi_f]
            simp only [decide_eq_false z, Bool.false_and]
        | _ => simp only [wholeD, is_2, is_1, is_Isi, is_B, is_Cons, is_Nil, is_Get, is_Var, vi_sh, is_C, is_Tup, is_Lst, is_Ite, is_And, is_Or, is_Call, is_Seq', is_L, is_Sl, pi_none, pi_some, ex_int, is_Chain, is_Lc, is_few, is_slNil, is_slSh, is_slOw, si_nx, si_rt, si_Seq, si_Skip, si_Break, si_Cont, si_RetN, si_Asg, si_Ret, si_Do, si_If, si_For, si_AsgT, si_Put, si_Rel, si_App, ai_ow, si_AsgO, si_Par, is_Dict, is_Attr, ti_obj, is_Make, is_Meth, mi_obj, is_LenO, ni_obj, ni_tup, ni_lst, is_EqO, ei_obj, ei_tup, ei_lst, ei_int, is_IxO, xi_obj, xi_tup, xi_lst, si_SetA, ui_ob, is_Lc2, is_fnF, is_fnI, bi_t, bi_f, oi_some, List.getElem?_cons_zero, List.getElem?_cons_succ, List.set_cons_zero, List.set_cons_succ, List.length_cons, List.length_nil, Nat.reduceAdd, Nat.reduceLeDiff, true_and, and_true, lk_self, tg_name, tg_tup, tg_cons, tg_nil, Option.bind_some, List.cons_append, List.nil_append, setE_nil, setE_cons, wipe_nil, wipe_cons, setS_nil, setS_cons, add_int, sub_int, neg_int, lt_int, le_int, gt_int, ge_int, not_bl, dEq_int, dNe_int, pow6, pow7, pow8, pow9, pow10, pow18, int1, len_lst, len_tup, tuple_lst, list_tup, seq_lst, seq_tup, seq_scr, enum_lst, enum_tup, min_int, max_int, shotD]
    · cases hp
theorem shotD_of {cs : Cams} {s : Nat × Nat} (h : IsShot cs s) : shotD cs (dShot s) = true := by
  obtain ⟨ns, h1, h2⟩ := h
  have h3 := (List.getElem?_eq_some_iff.mp h1).1
  show (decide (0 ≤ (s.1 : Int) ∧ (s.1 : Int) < cs.length) && decide (0 ≤ (s.2 : Int) ∧ (s.2 : Int) ≤ ((cs.getD (s.1 : Int).toNat []).length : Int) - 1)) = true
  rw [Int.toNat_natCast, List.getD, h1]
  simp
  omega
def isPairD (lo hi : Int) : Dat → Bool
  | .tup [.int a, .int b] => decide (lo ≤ a ∧ a ≤ b ∧ b ≤ hi)
  | _ => false
theorem all2 {x y : Bool} : dAll [.lst [.bl x, .bl y]] = some (.bl (x && y)) := by
  cases x <;> cases y <;> rfl
theorem wt_ints {ns : List Int} : ∀ d ∈ ns.map Dat.int, WT d := fun d hd => by
  obtain ⟨i, _, rfl⟩ := List.mem_map.mp hd
  exact .int i
theorem bounds_spec {d : Dat} {st : Sto} {R : Dat → Sto → Prop} {E : XP} (h : WT d) : Is (F_p_are_bounds [d] st) R E ↔ R (.bl (isPairD (-1000000000) 1000000000 d)) st := by
  unfold F_p_are_bounds b_p_are_bounds_den
  simp only [is_2, is_1, is_Isi, is_B, is_Cons, is_Nil, is_Get, is_Var, vi_sh, is_C, is_Tup, is_Lst, is_Ite, is_And, is_Or, is_Call, is_Seq', is_L, is_Sl, pi_none, pi_some, ex_int, is_Chain, is_Lc, is_few, is_slNil, is_slSh, is_slOw, si_nx, si_rt, si_Seq, si_Skip, si_Break, si_Cont, si_RetN, si_Asg, si_Ret, si_Do, si_If, si_For, si_AsgT, si_Put, si_Rel, si_App, ai_ow, si_AsgO, si_Par, is_Dict, is_Attr, ti_obj, is_Make, is_Meth, mi_obj, is_LenO, ni_obj, ni_tup, ni_lst, is_EqO, ei_obj, ei_tup, ei_lst, ei_int, is_IxO, xi_obj, xi_tup, xi_lst, si_SetA, ui_ob, is_Lc2, is_fnF, is_fnI, bi_t, bi_f, oi_some, List.getElem?_cons_zero, List.getElem?_cons_succ, List.set_cons_zero, List.set_cons_succ, List.length_cons, List.length_nil, Nat.reduceAdd, Nat.reduceLeDiff, true_and, and_true, lk_self, tg_name, tg_tup, tg_cons, tg_nil, Option.bind_some, List.cons_append, List.nil_append, setE_nil, setE_cons, wipe_nil, wipe_cons, setS_nil, setS_cons, add_int, sub_int, neg_int, lt_int, le_int, gt_int, ge_int, not_bl, dEq_int, dNe_int, pow6, pow7, pow8, pow9, pow10, pow18, int1, len_lst, len_tup, tuple_lst, list_tup, seq_lst, seq_tup, seq_scr, enum_lst, enum_tup, min_int, max_int, ev_1_1, ev_1_2, ev_2_2, ev_1_3, ev_2_3, ev_3_3, ev_1_4, ev_2_4, ev_3_4, ev_4_4, ev_1_5, ev_2_5, ev_3_5, ev_4_5, ev_5_5, ev_1_6, ev_2_6, ev_3_6, ev_4_6, ev_5_6, ev_6_6, ev_1_7, ev_2_7, ev_3_7, ev_4_7, ev_5_7, ev_6_7, ev_7_7, ev_1_8, ev_2_8, ev_3_8, ev_4_8, ev_5_8, ev_6_8, ev_7_8, ev_8_8, ev_1_9, ev_2_9, ev_3_9, ev_4_9, ev_5_9, ev_6_9, ev_7_9, ev_8_9, ev_1_10, ev_2_10, ev_3_10, ev_4_10, ev_5_10, ev_6_10, ev_7_10, ev_8_10, ev_1_11, ev_2_11, ev_3_11, ev_4_11, ev_5_11, ev_6_11, ev_7_11, ev_8_11, ev_1_12, ev_2_12, ev_3_12, ev_4_12, ev_5_12, ev_6_12, ev_7_12, ev_8_12, ev_1_13, ev_2_13, ev_3_13, ev_4_13, ev_5_13, ev_6_13, ev_7_13, ev_8_13, ev_1_14, ev_2_14, ev_3_14, ev_4_14, ev_5_14, ev_6_14, ev_7_14, ev_8_14, ev_1_15, ev_2_15, ev_3_15, ev_4_15, ev_5_15, ev_6_15, ev_7_15, ev_8_15, ev_1_16, ev_2_16, ev_3_16, ev_4_16, ev_5_16, ev_6_16, ev_7_16, ev_8_16, ev_1_17, ev_2_17, ev_3_17, ev_4_17, ev_5_17, ev_6_17, ev_7_17, ev_8_17, ev_1_18, ev_2_18, ev_3_18, ev_4_18, ev_5_18, ev_6_18, ev_7_18, ev_8_18, ev_1_19, ev_2_19, ev_3_19, ev_4_19, ev_5_19, ev_6_19, ev_7_19, ev_8_19, ev_1_20, ev_2_20, ev_3_20, ev_4_20, ev_5_20, ev_6_20, ev_7_20, ev_8_20, ev_1_21, ev_2_21, ev_3_21, ev_4_21, ev_5_21, ev_6_21, ev_7_21, ev_8_21, pair_spec h]
  cases hp : pairD d with
  | false =>
    have e : isPairD (-1000000000) 1000000000 d = false := by
      unfold isPairD
      split
      · simp [pairD] at hp
      · rfl
    simp only [is_2, is_1, is_Isi, is_B, is_Cons, is_Nil, is_Get, is_Var, vi_sh, is_C, is_Tup, is_Lst, is_Ite, is_And, is_Or, is_Call, is_Seq', is_L, is_Sl, pi_none, pi_some, ex_int, is_Chain, is_Lc, is_few, is_slNil, is_slSh, is_slOw, si_nx, si_rt, si_Seq, si_Skip, si_Break, si_Cont, si_RetN, si_Asg, si_Ret, si_Do, si_If, si_For, si_AsgT, si_Put, si_Rel, si_App, ai_ow, si_AsgO, si_Par, is_Dict, is_Attr, ti_obj, is_Make, is_Meth, mi_obj, is_LenO, ni_obj, ni_tup, ni_lst, is_EqO, ei_obj, ei_tup, ei_lst, ei_int, is_IxO, xi_obj, xi_tup, xi_lst, si_SetA, ui_ob, is_Lc2, is_fnF, is_fnI, bi_t, bi_f, oi_some, List.getElem?_cons_zero, List.getElem?_cons_succ, List.set_cons_zero, List.set_cons_succ, List.length_cons, List.length_nil, Nat.reduceAdd, Nat.reduceLeDiff, true_and, and_true, lk_self, tg_name, tg_tup, tg_cons, tg_nil, Option.bind_some, List.cons_append, List.nil_append, setE_nil, setE_cons, wipe_nil, wipe_cons, setS_nil, setS_cons, add_int, sub_int, neg_int, lt_int, le_int, gt_int, ge_int, not_bl, dEq_int, dNe_int, pow6, pow7, pow8, pow9, pow10, pow18, int1, len_lst, len_tup, tuple_lst, list_tup, seq_lst, seq_tup, seq_scr, enum_lst, enum_tup, min_int, max_int, e]
  | true =>
    unfold pairD at hp
    split at hp
    · rename_i a b
      cases h with
      | tup h =>
        have ha := h a (by simp)
        have hb := h b (by simp)
        simp only [is_2, is_1, is_Isi, is_B, is_Cons, is_Nil, is_Get, is_Var, vi_sh, is_C, is_Tup, is_Lst, is_Ite, is_And, is_Or, is_Call, is_Seq', is_L, is_Sl, pi_none, pi_some, ex_int, is_Chain, is_Lc, is_few, is_slNil, is_slSh, is_slOw, si_nx, si_rt, si_Seq, si_Skip, si_Break, si_Cont, si_RetN, si_Asg, si_Ret, si_Do, si_If, si_For, si_AsgT, si_Put, si_Rel, si_App, ai_ow, si_AsgO, si_Par, is_Dict, is_Attr, ti_obj, is_Make, is_Meth, mi_obj, is_LenO, ni_obj, ni_tup, ni_lst, is_EqO, ei_obj, ei_tup, ei_lst, ei_int, is_IxO, xi_obj, xi_tup, xi_lst, si_SetA, ui_ob, is_Lc2, is_fnF, is_fnI, bi_t, bi_f, oi_some, List.getElem?_cons_zero, List.getElem?_cons_succ, List.set_cons_zero, List.set_cons_succ, List.length_cons, List.length_nil, Nat.reduceAdd, Nat.reduceLeDiff, true_and, and_true, lk_self, tg_name, tg_tup, tg_cons, tg_nil, Option.bind_some, List.cons_append, List.nil_append, setE_nil, setE_cons, wipe_nil, wipe_cons, setS_nil, setS_cons, add_int, sub_int, neg_int, lt_int, le_int, gt_int, ge_int, not_bl, dEq_int, dNe_int, pow6, pow7, pow8, pow9, pow10, pow18, int1, len_lst, len_tup, tuple_lst, list_tup, seq_lst, seq_tup, seq_scr, enum_lst, enum_tup, min_int, max_int]
        rw [lc_map_iff fun d => .bl (wholeD (-1000000000) 1000000000 d)]
        · simp only [List.map_cons, List.map_nil, all2, is_2, is_1, is_Isi, is_B, is_Cons, is_Nil, is_Get, is_Var, vi_sh, is_C, is_Tup, is_Lst, is_Ite, is_And, is_Or, is_Call, is_Seq', is_L, is_Sl, pi_none, pi_some, ex_int, is_Chain, is_Lc, is_few, is_slNil, is_slSh, is_slOw, si_nx, si_rt, si_Seq, si_Skip, si_Break, si_Cont, si_RetN, si_Asg, si_Ret, si_Do, si_If, si_For, si_AsgT, si_Put, si_Rel, si_App, ai_ow, si_AsgO, si_Par, is_Dict, is_Attr, ti_obj, is_Make, is_Meth, mi_obj, is_LenO, ni_obj, ni_tup, ni_lst, is_EqO, ei_obj, ei_tup, ei_lst, ei_int, is_IxO, xi_obj, xi_tup, xi_lst, si_SetA, ui_ob, is_Lc2, is_fnF, is_fnI, bi_t, bi_f, oi_some, List.getElem?_cons_zero, List.getElem?_cons_succ, List.set_cons_zero, List.set_cons_succ, List.length_cons, List.length_nil, Nat.reduceAdd, Nat.reduceLeDiff, true_and, and_true, lk_self, tg_name, tg_tup, tg_cons, tg_nil, Option.bind_some, List.cons_append, List.nil_append, setE_nil, setE_cons, wipe_nil, wipe_cons, setS_nil, setS_cons, add_int, sub_int, neg_int, lt_int, le_int, gt_int, ge_int, not_bl, dEq_int, dNe_int, pow6, pow7, pow8, pow9, pow10, pow18, int1, len_lst, len_tup, tuple_lst, list_tup, seq_lst, seq_tup, seq_scr, enum_lst, enum_tup, min_int, max_int, ixt2_0, ixt2_1]
          cases ha with
          | int i =>
            cases hb with
            | int j =>
              simp only [wholeD, isPairD, is_2, is_1, is_Isi, is_B, is_Cons, is_Nil, is_Get, is_Var, vi_sh, is_C, is_Tup, is_Lst, is_Ite, is_And, is_Or, is_Call, is_Seq', is_L, is_Sl, pi_none, pi_some, ex_int, is_Chain, is_Lc, is_few, is_slNil, is_slSh, is_slOw, si_nx, si_rt, si_Seq, si_Skip, si_Break, si_Cont, si_RetN, si_Asg, si_Ret, si_Do, si_If, si_For, si_AsgT, si_Put, si_Rel, si_App, ai_ow, si_AsgO, si_Par, is_Dict, is_Attr, ti_obj, is_Make, is_Meth, mi_obj, is_LenO, ni_obj, ni_tup, ni_lst, is_EqO, ei_obj, ei_tup, ei_lst, ei_int, is_IxO, xi_obj, xi_tup, xi_lst, si_SetA, ui_ob, is_Lc2, is_fnF, is_fnI, bi_t, bi_f, oi_some, List.getElem?_cons_zero, List.getElem?_cons_succ, List.set_cons_zero, List.set_cons_succ, List.length_cons, List.length_nil, Nat.reduceAdd, Nat.reduceLeDiff, true_and, and_true, lk_self, tg_name, tg_tup, tg_cons, tg_nil, Option.bind_some, List.cons_append, List.nil_append, setE_nil, setE_cons, wipe_nil, wipe_cons, setS_nil, setS_cons, add_int, sub_int, neg_int, lt_int, le_int, gt_int, ge_int, not_bl, dEq_int, dNe_int, pow6, pow7, pow8, pow9, pow10, pow18, int1, len_lst, len_tup, tuple_lst, list_tup, seq_lst, seq_tup, seq_scr, enum_lst, enum_tup, min_int, max_int]
              by_cases z : (-1000000000 ≤ i ∧ i ≤ 1000000000) ∧ -1000000000 ≤ j ∧ j ≤ 1000000000
              · rw [decide_eq_true z.1, decide_eq_true z.2]
                simp only [Bool.and_self, is_2, is_1, is_Isi, is_B, is_Cons, is_Nil, is_Get, is_Var, vi_sh, is_C, is_Tup, is_Lst, is_Ite, is_And, is_Or, is_Call, is_Seq', is_L, is_Sl, pi_none, pi_some, ex_int, is_Chain, is_Lc, is_few, is_slNil, is_slSh, is_slOw, si_nx, si_rt, si_Seq, si_Skip, si_Break, si_Cont, si_RetN, si_Asg, si_Ret, si_Do, si_If, si_For, si_AsgT, si_Put, si_Rel, si_App, ai_ow, si_AsgO, si_Par, is_Dict, is_Attr, ti_obj, is_Make, is_Meth, mi_obj, is_LenO, ni_obj, ni_tup, ni_lst, is_EqO, ei_obj, ei_tup, ei_lst, ei_int, is_IxO, xi_obj, xi_tup, xi_lst, si_SetA, ui_ob, is_Lc2, is_fnF, is_fnI, bi_t, bi_f, oi_some, List.getElem?_cons_zero, List.getElem?_cons_succ, List.set_cons_zero, List.set_cons_succ, List.length_cons, List.length_nil, Nat.reduceAdd, Nat.reduceLeDiff, true_and, and_true, lk_self, tg_name, tg_tup, tg_cons, tg_nil, Option.bind_some, List.cons_append, List.nil_append, setE_nil, setE_cons, wipe_nil, wipe_cons, setS_nil, setS_cons, add_int, sub_int, neg_int, lt_int, le_int, gt_int, ge_int, not_bl, dEq_int, dNe_int, pow6, pow7, pow8, pow9, pow10, pow18, int1, len_lst, len_tup, tuple_lst, list_tup, seq_lst, seq_tup, seq_scr, enum_lst, enum_tup, min_int, max_int]
                exact Iff.of_eq (congrArg (fun b => R (.bl b) st) (decide_eq_decide.mpr (by omega)))
              · rw [show (decide (-1000000000 ≤ i ∧ i ≤ 1000000000) && decide (-1000000000 ≤ j ∧ j ≤ 1000000000)) = false from by rw [← Bool.decide_and]; exact decide_eq_false z, bi_f, decide_eq_false (by omega)]
            | _ => simp only [wholeD, isPairD, Bool.and_false, is_2, is_1, is_Isi, is_B, is_Cons, is_Nil, is_Get, is_Var, vi_sh, is_C, is_Tup, is_Lst, is_Ite, is_And, is_Or, is_Call, is_Seq', is_L, is_Sl, pi_none, pi_some, ex_int, is_Chain, is_Lc, is_few, is_slNil, is_slSh, is_slOw, si_nx, si_rt, si_Seq, si_Skip, si_Break, si_Cont, si_RetN, si_Asg, si_Ret, si_Do, si_If, si_For, si_AsgT, si_Put, si_Rel, si_App, ai_ow, si_AsgO, si_Par, is_Dict, is_Attr, ti_obj, is_Make, is_Meth, mi_obj, is_LenO, ni_obj, ni_tup, ni_lst, is_EqO, ei_obj, ei_tup, ei_lst, ei_int, is_IxO, xi_obj, xi_tup, xi_lst, si_SetA, ui_ob, is_Lc2, is_fnF, is_fnI, bi_t, bi_f, oi_some, List.getElem?_cons_zero, List.getElem?_cons_succ, List.set_cons_zero, List.set_cons_succ, List.length_cons, List.length_nil, Nat.reduceAdd, Nat.reduceLeDiff, true_and, and_true, lk_self, tg_name, tg_tup, tg_cons, tg_nil, Option.bind_some, List.cons_append, List.nil_append, setE_nil, setE_cons, wipe_nil, wipe_cons, setS_nil, setS_cons, add_int, sub_int, neg_int, lt_int, le_int, gt_int, ge_int, not_bl, dEq_int, dNe_int, pow6, pow7, pow8, pow9, pow10, pow18, int1, len_lst, len_tup, tuple_lst, list_tup, seq_lst, seq_tup, seq_scr, enum_lst, enum_tup, min_int, max_int]
          | _ => simp only [wholeD, isPairD, Bool.false_and, is_2, is_1, is_Isi, is_B, is_Cons, is_Nil, is_Get, is_Var, vi_sh, is_C, is_Tup, is_Lst, is_Ite, is_And, is_Or, is_Call, is_Seq', is_L, is_Sl, pi_none, pi_some, ex_int, is_Chain, is_Lc, is_few, is_slNil, is_slSh, is_slOw, si_nx, si_rt, si_Seq, si_Skip, si_Break, si_Cont, si_RetN, si_Asg, si_Ret, si_Do, si_If, si_For, si_AsgT, si_Put, si_Rel, si_App, ai_ow, si_AsgO, si_Par, is_Dict, is_Attr, ti_obj, is_Make, is_Meth, mi_obj, is_LenO, ni_obj, ni_tup, ni_lst, is_EqO, ei_obj, ei_tup, ei_lst, ei_int, is_IxO, xi_obj, xi_tup, xi_lst, si_SetA, ui_ob, is_Lc2, is_fnF, is_fnI, bi_t, bi_f, oi_some, List.getElem?_cons_zero, List.getElem?_cons_succ, List.set_cons_zero, List.set_cons_succ, List.length_cons, List.length_nil, Nat.reduceAdd, Nat.reduceLeDiff, true_and, and_true, lk_self, tg_name, tg_tup, tg_cons, tg_nil, Option.bind_some, List.cons_append, List.nil_append, setE_nil, setE_cons, wipe_nil, wipe_cons, setS_nil, setS_cons, add_int, sub_int, neg_int, lt_int, le_int, gt_int, ge_int, not_bl, dEq_int, dNe_int, pow6, pow7, pow8, pow9, pow10, pow18, int1, len_lst, len_tup, tuple_lst, list_tup, seq_lst, seq_tup, seq_scr, enum_lst, enum_tup, min_int, max_int]
        · intro x hx
          have hw : WT x := h x hx
          simp only [is_2, is_1, is_Isi, is_B, is_Cons, is_Nil, is_Get, is_Var, vi_sh, is_C, is_Tup, is_Lst, is_Ite, is_And, is_Or, is_Call, is_Seq', is_L, is_Sl, pi_none, pi_some, ex_int, is_Chain, is_Lc, is_few, is_slNil, is_slSh, is_slOw, si_nx, si_rt, si_Seq, si_Skip, si_Break, si_Cont, si_RetN, si_Asg, si_Ret, si_Do, si_If, si_For, si_AsgT, si_Put, si_Rel, si_App, ai_ow, si_AsgO, si_Par, is_Dict, is_Attr, ti_obj, is_Make, is_Meth, mi_obj, is_LenO, ni_obj, ni_tup, ni_lst, is_EqO, ei_obj, ei_tup, ei_lst, ei_int, is_IxO, xi_obj, xi_tup, xi_lst, si_SetA, ui_ob, is_Lc2, is_fnF, is_fnI, bi_t, bi_f, oi_some, List.getElem?_cons_zero, List.getElem?_cons_succ, List.set_cons_zero, List.set_cons_succ, List.length_cons, List.length_nil, Nat.reduceAdd, Nat.reduceLeDiff, true_and, and_true, lk_self, tg_name, tg_tup, tg_cons, tg_nil, Option.bind_some, List.cons_append, List.nil_append, setE_nil, setE_cons, wipe_nil, wipe_cons, setS_nil, setS_cons, add_int, sub_int, neg_int, lt_int, le_int, gt_int, ge_int, not_bl, dEq_int, dNe_int, pow6, pow7, pow8, pow9, pow10, pow18, int1, len_lst, len_tup, tuple_lst, list_tup, seq_lst, seq_tup, seq_scr, enum_lst, enum_tup, min_int, max_int, whole_spec hw]
    · cases hp
def tieD (cs : Cams) : Dat → Bool
  | .tup [s, t, .int lo, .int hi] => shotD cs s && shotD cs t && decide (-10000000000 ≤ lo ∧ lo ≤ hi ∧ hi ≤ 10000000000)
  | _ => false
theorem tie_spec {cs : Cams} {d : Dat} {st : Sto} {R : Dat → Sto → Prop} {E : XP} (h : WT d) : Is (F_p_is_tie [dCams cs, d] st) R E ↔ R (.bl (tieD cs d)) st := by
  unfold F_p_is_tie b_p_is_tie_den
  simp only [is_2, is_1, is_Isi, is_B, is_Cons, is_Nil, is_Get, is_Var, vi_sh, is_C, is_Tup, is_Lst, is_Ite, is_And, is_Or, is_Call, is_Seq', is_L, is_Sl, pi_none, pi_some, ex_int, is_Chain, is_Lc, is_few, is_slNil, is_slSh, is_slOw, si_nx, si_rt, si_Seq, si_Skip, si_Break, si_Cont, si_RetN, si_Asg, si_Ret, si_Do, si_If, si_For, si_AsgT, si_Put, si_Rel, si_App, ai_ow, si_AsgO, si_Par, is_Dict, is_Attr, ti_obj, is_Make, is_Meth, mi_obj, is_LenO, ni_obj, ni_tup, ni_lst, is_EqO, ei_obj, ei_tup, ei_lst, ei_int, is_IxO, xi_obj, xi_tup, xi_lst, si_SetA, ui_ob, is_Lc2, is_fnF, is_fnI, bi_t, bi_f, oi_some, List.getElem?_cons_zero, List.getElem?_cons_succ, List.set_cons_zero, List.set_cons_succ, List.length_cons, List.length_nil, Nat.reduceAdd, Nat.reduceLeDiff, true_and, and_true, lk_self, tg_name, tg_tup, tg_cons, tg_nil, Option.bind_some, List.cons_append, List.nil_append, setE_nil, setE_cons, wipe_nil, wipe_cons, setS_nil, setS_cons, add_int, sub_int, neg_int, lt_int, le_int, gt_int, ge_int, not_bl, dEq_int, dNe_int, pow6, pow7, pow8, pow9, pow10, pow18, int1, len_lst, len_tup, tuple_lst, list_tup, seq_lst, seq_tup, seq_scr, enum_lst, enum_tup, min_int, max_int, ev_1_1, ev_1_2, ev_2_2, ev_1_3, ev_2_3, ev_3_3, ev_1_4, ev_2_4, ev_3_4, ev_4_4, ev_1_5, ev_2_5, ev_3_5, ev_4_5, ev_5_5, ev_1_6, ev_2_6, ev_3_6, ev_4_6, ev_5_6, ev_6_6, ev_1_7, ev_2_7, ev_3_7, ev_4_7, ev_5_7, ev_6_7, ev_7_7, ev_1_8, ev_2_8, ev_3_8, ev_4_8, ev_5_8, ev_6_8, ev_7_8, ev_8_8, ev_1_9, ev_2_9, ev_3_9, ev_4_9, ev_5_9, ev_6_9, ev_7_9, ev_8_9, ev_1_10, ev_2_10, ev_3_10, ev_4_10, ev_5_10, ev_6_10, ev_7_10, ev_8_10, ev_1_11, ev_2_11, ev_3_11, ev_4_11, ev_5_11, ev_6_11, ev_7_11, ev_8_11, ev_1_12, ev_2_12, ev_3_12, ev_4_12, ev_5_12, ev_6_12, ev_7_12, ev_8_12, ev_1_13, ev_2_13, ev_3_13, ev_4_13, ev_5_13, ev_6_13, ev_7_13, ev_8_13, ev_1_14, ev_2_14, ev_3_14, ev_4_14, ev_5_14, ev_6_14, ev_7_14, ev_8_14, ev_1_15, ev_2_15, ev_3_15, ev_4_15, ev_5_15, ev_6_15, ev_7_15, ev_8_15, ev_1_16, ev_2_16, ev_3_16, ev_4_16, ev_5_16, ev_6_16, ev_7_16, ev_8_16, ev_1_17, ev_2_17, ev_3_17, ev_4_17, ev_5_17, ev_6_17, ev_7_17, ev_8_17, ev_1_18, ev_2_18, ev_3_18, ev_4_18, ev_5_18, ev_6_18, ev_7_18, ev_8_18, ev_1_19, ev_2_19, ev_3_19, ev_4_19, ev_5_19, ev_6_19, ev_7_19, ev_8_19, ev_1_20, ev_2_20, ev_3_20, ev_4_20, ev_5_20, ev_6_20, ev_7_20, ev_8_20, ev_1_21, ev_2_21, ev_3_21, ev_4_21, ev_5_21, ev_6_21, ev_7_21, ev_8_21, isi_tup h]
  cases h with
  | tup h =>
    rename_i ds
    simp only [isTupD, is_2, is_1, is_Isi, is_B, is_Cons, is_Nil, is_Get, is_Var, vi_sh, is_C, is_Tup, is_Lst, is_Ite, is_And, is_Or, is_Call, is_Seq', is_L, is_Sl, pi_none, pi_some, ex_int, is_Chain, is_Lc, is_few, is_slNil, is_slSh, is_slOw, si_nx, si_rt, si_Seq, si_Skip, si_Break, si_Cont, si_RetN, si_Asg, si_Ret, si_Do, si_If, si_For, si_AsgT, si_Put, si_Rel, si_App, ai_ow, si_AsgO, si_Par, is_Dict, is_Attr, ti_obj, is_Make, is_Meth, mi_obj, is_LenO, ni_obj, ni_tup, ni_lst, is_EqO, ei_obj, ei_tup, ei_lst, ei_int, is_IxO, xi_obj, xi_tup, xi_lst, si_SetA, ui_ob, is_Lc2, is_fnF, is_fnI, bi_t, bi_f, oi_some, List.getElem?_cons_zero, List.getElem?_cons_succ, List.set_cons_zero, List.set_cons_succ, List.length_cons, List.length_nil, Nat.reduceAdd, Nat.reduceLeDiff, true_and, and_true, lk_self, tg_name, tg_tup, tg_cons, tg_nil, Option.bind_some, List.cons_append, List.nil_append, setE_nil, setE_cons, wipe_nil, wipe_cons, setS_nil, setS_cons, add_int, sub_int, neg_int, lt_int, le_int, gt_int, ge_int, not_bl, dEq_int, dNe_int, pow6, pow7, pow8, pow9, pow10, pow18, int1, len_lst, len_tup, tuple_lst, list_tup, seq_lst, seq_tup, seq_scr, enum_lst, enum_tup, min_int, max_int, Bool.not_true]
    by_cases hl : ds.length = 4
    · match ds, hl with
      | [s, t, lo, hi], _ =>
        have hs := h s (by simp)
        have ht := h t (by simp)
        have h1 := h lo (by simp)
        have h2 := h hi (by simp)
        simp only [is_2, is_1, is_Isi, is_B, is_Cons, is_Nil, is_Get, is_Var, vi_sh, is_C, is_Tup, is_Lst, is_Ite, is_And, is_Or, is_Call, is_Seq', is_L, is_Sl, pi_none, pi_some, ex_int, is_Chain, is_Lc, is_few, is_slNil, is_slSh, is_slOw, si_nx, si_rt, si_Seq, si_Skip, si_Break, si_Cont, si_RetN, si_Asg, si_Ret, si_Do, si_If, si_For, si_AsgT, si_Put, si_Rel, si_App, ai_ow, si_AsgO, si_Par, is_Dict, is_Attr, ti_obj, is_Make, is_Meth, mi_obj, is_LenO, ni_obj, ni_tup, ni_lst, is_EqO, ei_obj, ei_tup, ei_lst, ei_int, is_IxO, xi_obj, xi_tup, xi_lst, si_SetA, ui_ob, is_Lc2, is_fnF, is_fnI, bi_t, bi_f, oi_some, List.getElem?_cons_zero, List.getElem?_cons_succ, List.set_cons_zero, List.set_cons_succ, List.length_cons, List.length_nil, Nat.reduceAdd, Nat.reduceLeDiff, true_and, and_true, lk_self, tg_name, tg_tup, tg_cons, tg_nil, Option.bind_some, List.cons_append, List.nil_append, setE_nil, setE_cons, wipe_nil, wipe_cons, setS_nil, setS_cons, add_int, sub_int, neg_int, lt_int, le_int, gt_int, ge_int, not_bl, dEq_int, dNe_int, pow6, pow7, pow8, pow9, pow10, pow18, int1, len_lst, len_tup, tuple_lst, list_tup, seq_lst, seq_tup, seq_scr, enum_lst, enum_tup, min_int, max_int, dSl, show cutD [s, t, lo, hi] none (some 2) = [s, t] from rfl, show cutD [s, t, lo, hi] (some 2) none = [lo, hi] from rfl, show dIx (.tup [s, t, lo, hi]) (.int 2) = some lo from rfl, show dIx (.tup [s, t, lo, hi]) (.int 3) = some hi from rfl]
        rw [show decide (((0 + 1 + 1 + 1 + 1 : Nat) : Int) ≠ 4) = false from rfl, bi_f, lc_map_iff fun d => .bl (shotD cs d)]
        · simp only [List.map_cons, List.map_nil, all2, is_2, is_1, is_Isi, is_B, is_Cons, is_Nil, is_Get, is_Var, vi_sh, is_C, is_Tup, is_Lst, is_Ite, is_And, is_Or, is_Call, is_Seq', is_L, is_Sl, pi_none, pi_some, ex_int, is_Chain, is_Lc, is_few, is_slNil, is_slSh, is_slOw, si_nx, si_rt, si_Seq, si_Skip, si_Break, si_Cont, si_RetN, si_Asg, si_Ret, si_Do, si_If, si_For, si_AsgT, si_Put, si_Rel, si_App, ai_ow, si_AsgO, si_Par, is_Dict, is_Attr, ti_obj, is_Make, is_Meth, mi_obj, is_LenO, ni_obj, ni_tup, ni_lst, is_EqO, ei_obj, ei_tup, ei_lst, ei_int, is_IxO, xi_obj, xi_tup, xi_lst, si_SetA, ui_ob, is_Lc2, is_fnF, is_fnI, bi_t, bi_f, oi_some, List.getElem?_cons_zero, List.getElem?_cons_succ, List.set_cons_zero, List.set_cons_succ, List.length_cons, List.length_nil, Nat.reduceAdd, Nat.reduceLeDiff, true_and, and_true, lk_self, tg_name, tg_tup, tg_cons, tg_nil, Option.bind_some, List.cons_append, List.nil_append, setE_nil, setE_cons, wipe_nil, wipe_cons, setS_nil, setS_cons, add_int, sub_int, neg_int, lt_int, le_int, gt_int, ge_int, not_bl, dEq_int, dNe_int, pow6, pow7, pow8, pow9, pow10, pow18, int1, len_lst, len_tup, tuple_lst, list_tup, seq_lst, seq_tup, seq_scr, enum_lst, enum_tup, min_int, max_int]
          cases hq : (shotD cs s && shotD cs t) with
          | false => 
            have e : tieD cs (.tup [s, t, lo, hi]) = false := by
              unfold tieD
              split
              · rename_i e; cases e; rw [hq]; rfl
              · rfl
            simp only [Bool.not_false, is_2, is_1, is_Isi, is_B, is_Cons, is_Nil, is_Get, is_Var, vi_sh, is_C, is_Tup, is_Lst, is_Ite, is_And, is_Or, is_Call, is_Seq', is_L, is_Sl, pi_none, pi_some, ex_int, is_Chain, is_Lc, is_few, is_slNil, is_slSh, is_slOw, si_nx, si_rt, si_Seq, si_Skip, si_Break, si_Cont, si_RetN, si_Asg, si_Ret, si_Do, si_If, si_For, si_AsgT, si_Put, si_Rel, si_App, ai_ow, si_AsgO, si_Par, is_Dict, is_Attr, ti_obj, is_Make, is_Meth, mi_obj, is_LenO, ni_obj, ni_tup, ni_lst, is_EqO, ei_obj, ei_tup, ei_lst, ei_int, is_IxO, xi_obj, xi_tup, xi_lst, si_SetA, ui_ob, is_Lc2, is_fnF, is_fnI, bi_t, bi_f, oi_some, List.getElem?_cons_zero, List.getElem?_cons_succ, List.set_cons_zero, List.set_cons_succ, List.length_cons, List.length_nil, Nat.reduceAdd, Nat.reduceLeDiff, true_and, and_true, lk_self, tg_name, tg_tup, tg_cons, tg_nil, Option.bind_some, List.cons_append, List.nil_append, setE_nil, setE_cons, wipe_nil, wipe_cons, setS_nil, setS_cons, add_int, sub_int, neg_int, lt_int, le_int, gt_int, ge_int, not_bl, dEq_int, dNe_int, pow6, pow7, pow8, pow9, pow10, pow18, int1, len_lst, len_tup, tuple_lst, list_tup, seq_lst, seq_tup, seq_scr, enum_lst, enum_tup, min_int, max_int, e]
          | true =>
            simp only [Bool.not_true, is_2, is_1, is_Isi, is_B, is_Cons, is_Nil, is_Get, is_Var, vi_sh, is_C, is_Tup, is_Lst, is_Ite, is_And, is_Or, is_Call, is_Seq', is_L, is_Sl, pi_none, pi_some, ex_int, is_Chain, is_Lc, is_few, is_slNil, is_slSh, is_slOw, si_nx, si_rt, si_Seq, si_Skip, si_Break, si_Cont, si_RetN, si_Asg, si_Ret, si_Do, si_If, si_For, si_AsgT, si_Put, si_Rel, si_App, ai_ow, si_AsgO, si_Par, is_Dict, is_Attr, ti_obj, is_Make, is_Meth, mi_obj, is_LenO, ni_obj, ni_tup, ni_lst, is_EqO, ei_obj, ei_tup, ei_lst, ei_int, is_IxO, xi_obj, xi_tup, xi_lst, si_SetA, ui_ob, is_Lc2, is_fnF, is_fnI, bi_t, bi_f, oi_some, List.getElem?_cons_zero, List.getElem?_cons_succ, List.set_cons_zero, List.set_cons_succ, List.length_cons, List.length_nil, Nat.reduceAdd, Nat.reduceLeDiff, true_and, and_true, lk_self, tg_name, tg_tup, tg_cons, tg_nil, Option.bind_some, List.cons_append, List.nil_append, setE_nil, setE_cons, wipe_nil, wipe_cons, setS_nil, setS_cons, add_int, sub_int, neg_int, lt_int, le_int, gt_int, ge_int, not_bl, dEq_int, dNe_int, pow6, pow7, pow8, pow9, pow10, pow18, int1, len_lst, len_tup, tuple_lst, list_tup, seq_lst, seq_tup, seq_scr, enum_lst, enum_tup, min_int, max_int]
            rw [lc_map_iff fun d => .bl (wholeD (-10000000000) 10000000000 d)]
            · simp only [List.map_cons, List.map_nil, all2, is_2, is_1, is_Isi, is_B, is_Cons, is_Nil, is_Get, is_Var, vi_sh, is_C, is_Tup, is_Lst, is_Ite, is_And, is_Or, is_Call, is_Seq', is_L, is_Sl, pi_none, pi_some, ex_int, is_Chain, is_Lc, is_few, is_slNil, is_slSh, is_slOw, si_nx, si_rt, si_Seq, si_Skip, si_Break, si_Cont, si_RetN, si_Asg, si_Ret, si_Do, si_If, si_For, si_AsgT, si_Put, si_Rel, si_App, ai_ow, si_AsgO, si_Par, is_Dict, is_Attr, ti_obj, is_Make, is_Meth, mi_obj, is_LenO, ni_obj, ni_tup, ni_lst, is_EqO, ei_obj, ei_tup, ei_lst, ei_int, is_IxO, xi_obj, xi_tup, xi_lst, si_SetA, ui_ob, is_Lc2, is_fnF, is_fnI, bi_t, bi_f, oi_some, List.getElem?_cons_zero, List.getElem?_cons_succ, List.set_cons_zero, List.set_cons_succ, List.length_cons, List.length_nil, Nat.reduceAdd, Nat.reduceLeDiff, true_and, and_true, lk_self, tg_name, tg_tup, tg_cons, tg_nil, Option.bind_some, List.cons_append, List.nil_append, setE_nil, setE_cons, wipe_nil, wipe_cons, setS_nil, setS_cons, add_int, sub_int, neg_int, lt_int, le_int, gt_int, ge_int, not_bl, dEq_int, dNe_int, pow6, pow7, pow8, pow9, pow10, pow18, int1, len_lst, len_tup, tuple_lst, list_tup, seq_lst, seq_tup, seq_scr, enum_lst, enum_tup, min_int, max_int]
              cases h1 with
              | int i =>
                cases h2 with
                | int j =>
                  simp only [wholeD, tieD, is_2, is_1, is_Isi, is_B, is_Cons, is_Nil, is_Get, is_Var, vi_sh, is_C, is_Tup, is_Lst, is_Ite, is_And, is_Or, is_Call, is_Seq', is_L, is_Sl, pi_none, pi_some, ex_int, is_Chain, is_Lc, is_few, is_slNil, is_slSh, is_slOw, si_nx, si_rt, si_Seq, si_Skip, si_Break, si_Cont, si_RetN, si_Asg, si_Ret, si_Do, si_If, si_For, si_AsgT, si_Put, si_Rel, si_App, ai_ow, si_AsgO, si_Par, is_Dict, is_Attr, ti_obj, is_Make, is_Meth, mi_obj, is_LenO, ni_obj, ni_tup, ni_lst, is_EqO, ei_obj, ei_tup, ei_lst, ei_int, is_IxO, xi_obj, xi_tup, xi_lst, si_SetA, ui_ob, is_Lc2, is_fnF, is_fnI, bi_t, bi_f, oi_some, List.getElem?_cons_zero, List.getElem?_cons_succ, List.set_cons_zero, List.set_cons_succ, List.length_cons, List.length_nil, Nat.reduceAdd, Nat.reduceLeDiff, true_and, and_true, lk_self, tg_name, tg_tup, tg_cons, tg_nil, Option.bind_some, List.cons_append, List.nil_append, setE_nil, setE_cons, wipe_nil, wipe_cons, setS_nil, setS_cons, add_int, sub_int, neg_int, lt_int, le_int, gt_int, ge_int, not_bl, dEq_int, dNe_int, pow6, pow7, pow8, pow9, pow10, pow18, int1, len_lst, len_tup, tuple_lst, list_tup, seq_lst, seq_tup, seq_scr, enum_lst, enum_tup, min_int, max_int, hq, Bool.true_and]
                  by_cases z : (-10000000000 ≤ i ∧ i ≤ 10000000000) ∧ -10000000000 ≤ j ∧ j ≤ 10000000000
                  · rw [decide_eq_true z.1, decide_eq_true z.2]
                    simp only [Bool.and_self, is_2, is_1, is_Isi, is_B, is_Cons, is_Nil, is_Get, is_Var, vi_sh, is_C, is_Tup, is_Lst, is_Ite, is_And, is_Or, is_Call, is_Seq', is_L, is_Sl, pi_none, pi_some, ex_int, is_Chain, is_Lc, is_few, is_slNil, is_slSh, is_slOw, si_nx, si_rt, si_Seq, si_Skip, si_Break, si_Cont, si_RetN, si_Asg, si_Ret, si_Do, si_If, si_For, si_AsgT, si_Put, si_Rel, si_App, ai_ow, si_AsgO, si_Par, is_Dict, is_Attr, ti_obj, is_Make, is_Meth, mi_obj, is_LenO, ni_obj, ni_tup, ni_lst, is_EqO, ei_obj, ei_tup, ei_lst, ei_int, is_IxO, xi_obj, xi_tup, xi_lst, si_SetA, ui_ob, is_Lc2, is_fnF, is_fnI, bi_t, bi_f, oi_some, List.getElem?_cons_zero, List.getElem?_cons_succ, List.set_cons_zero, List.set_cons_succ, List.length_cons, List.length_nil, Nat.reduceAdd, Nat.reduceLeDiff, true_and, and_true, lk_self, tg_name, tg_tup, tg_cons, tg_nil, Option.bind_some, List.cons_append, List.nil_append, setE_nil, setE_cons, wipe_nil, wipe_cons, setS_nil, setS_cons, add_int, sub_int, neg_int, lt_int, le_int, gt_int, ge_int, not_bl, dEq_int, dNe_int, pow6, pow7, pow8, pow9, pow10, pow18, int1, len_lst, len_tup, tuple_lst, list_tup, seq_lst, seq_tup, seq_scr, enum_lst, enum_tup, min_int, max_int]
                    exact Iff.of_eq (congrArg (fun b => R (.bl b) st) (decide_eq_decide.mpr (by omega)))
                  · rw [show (decide (-10000000000 ≤ i ∧ i ≤ 10000000000) && decide (-10000000000 ≤ j ∧ j ≤ 10000000000)) = false from by rw [← Bool.decide_and]; exact decide_eq_false z, bi_f, decide_eq_false (by omega)]
                | _ => simp only [wholeD, tieD, Bool.and_false, is_2, is_1, is_Isi, is_B, is_Cons, is_Nil, is_Get, is_Var, vi_sh, is_C, is_Tup, is_Lst, is_Ite, is_And, is_Or, is_Call, is_Seq', is_L, is_Sl, pi_none, pi_some, ex_int, is_Chain, is_Lc, is_few, is_slNil, is_slSh, is_slOw, si_nx, si_rt, si_Seq, si_Skip, si_Break, si_Cont, si_RetN, si_Asg, si_Ret, si_Do, si_If, si_For, si_AsgT, si_Put, si_Rel, si_App, ai_ow, si_AsgO, si_Par, is_Dict, is_Attr, ti_obj, is_Make, is_Meth, mi_obj, is_LenO, ni_obj, ni_tup, ni_lst, is_EqO, ei_obj, ei_tup, ei_lst, ei_int, is_IxO, xi_obj, xi_tup, xi_lst, si_SetA, ui_ob, is_Lc2, is_fnF, is_fnI, bi_t, bi_f, oi_some, List.getElem?_cons_zero, List.getElem?_cons_succ, List.set_cons_zero, List.set_cons_succ, List.length_cons, List.length_nil, Nat.reduceAdd, Nat.reduceLeDiff, true_and, and_true, lk_self, tg_name, tg_tup, tg_cons, tg_nil, Option.bind_some, List.cons_append, List.nil_append, setE_nil, setE_cons, wipe_nil, wipe_cons, setS_nil, setS_cons, add_int, sub_int, neg_int, lt_int, le_int, gt_int, ge_int, not_bl, dEq_int, dNe_int, pow6, pow7, pow8, pow9, pow10, pow18, int1, len_lst, len_tup, tuple_lst, list_tup, seq_lst, seq_tup, seq_scr, enum_lst, enum_tup, min_int, max_int]
              | _ => simp only [wholeD, tieD, Bool.false_and, is_2, is_1, is_Isi, is_B, is_Cons, is_Nil, is_Get, is_Var, vi_sh, is_C, is_Tup, is_Lst, is_Ite, is_And, is_Or, is_Call, is_Seq', is_L, is_Sl, pi_none, pi_some, ex_int, is_Chain, is_Lc, is_few, is_slNil, is_slSh, is_slOw, si_nx, si_rt, si_Seq, si_Skip, si_Break, si_Cont, si_RetN, si_Asg, si_Ret, si_Do, si_If, si_For, si_AsgT, si_Put, si_Rel, si_App, ai_ow, si_AsgO, si_Par, is_Dict, is_Attr, ti_obj, is_Make, is_Meth, mi_obj, is_LenO, ni_obj, ni_tup, ni_lst, is_EqO, ei_obj, ei_tup, ei_lst, ei_int, is_IxO, xi_obj, xi_tup, xi_lst, si_SetA, ui_ob, is_Lc2, is_fnF, is_fnI, bi_t, bi_f, oi_some, List.getElem?_cons_zero, List.getElem?_cons_succ, List.set_cons_zero, List.set_cons_succ, List.length_cons, List.length_nil, Nat.reduceAdd, Nat.reduceLeDiff, true_and, and_true, lk_self, tg_name, tg_tup, tg_cons, tg_nil, Option.bind_some, List.cons_append, List.nil_append, setE_nil, setE_cons, wipe_nil, wipe_cons, setS_nil, setS_cons, add_int, sub_int, neg_int, lt_int, le_int, gt_int, ge_int, not_bl, dEq_int, dNe_int, pow6, pow7, pow8, pow9, pow10, pow18, int1, len_lst, len_tup, tuple_lst, list_tup, seq_lst, seq_tup, seq_scr, enum_lst, enum_tup, min_int, max_int]
            · intro x hx
              have hw : WT x := h x (List.mem_cons_of_mem _ (List.mem_cons_of_mem _ hx))
              simp only [is_2, is_1, is_Isi, is_B, is_Cons, is_Nil, is_Get, is_Var, vi_sh, is_C, is_Tup, is_Lst, is_Ite, is_And, is_Or, is_Call, is_Seq', is_L, is_Sl, pi_none, pi_some, ex_int, is_Chain, is_Lc, is_few, is_slNil, is_slSh, is_slOw, si_nx, si_rt, si_Seq, si_Skip, si_Break, si_Cont, si_RetN, si_Asg, si_Ret, si_Do, si_If, si_For, si_AsgT, si_Put, si_Rel, si_App, ai_ow, si_AsgO, si_Par, is_Dict, is_Attr, ti_obj, is_Make, is_Meth, mi_obj, is_LenO, ni_obj, ni_tup, ni_lst, is_EqO, ei_obj, ei_tup, ei_lst, ei_int, is_IxO, xi_obj, xi_tup, xi_lst, si_SetA, ui_ob, is_Lc2, is_fnF, is_fnI, bi_t, bi_f, oi_some, List.getElem?_cons_zero, List.getElem?_cons_succ, List.set_cons_zero, List.set_cons_succ, List.length_cons, List.length_nil, Nat.reduceAdd, Nat.reduceLeDiff, true_and, and_true, lk_self, tg_name, tg_tup, tg_cons, tg_nil, Option.bind_some, List.cons_append, List.nil_append, setE_nil, setE_cons, wipe_nil, wipe_cons, setS_nil, setS_cons, add_int, sub_int, neg_int, lt_int, le_int, gt_int, ge_int, not_bl, dEq_int, dNe_int, pow6, pow7, pow8, pow9, pow10, pow18, int1, len_lst, len_tup, tuple_lst, list_tup, seq_lst, seq_tup, seq_scr, enum_lst, enum_tup, min_int, max_int, whole_spec hw]
        · intro x hx
          have hw : WT x := by
            rcases List.mem_cons.mp hx with e | e
            · rw [e]; exact hs
            · rw [List.mem_singleton.mp e]; exact ht
          simp only [is_2, is_1, is_Isi, is_B, is_Cons, is_Nil, is_Get, is_Var, vi_sh, is_C, is_Tup, is_Lst, is_Ite, is_And, is_Or, is_Call, is_Seq', is_L, is_Sl, pi_none, pi_some, ex_int, is_Chain, is_Lc, is_few, is_slNil, is_slSh, is_slOw, si_nx, si_rt, si_Seq, si_Skip, si_Break, si_Cont, si_RetN, si_Asg, si_Ret, si_Do, si_If, si_For, si_AsgT, si_Put, si_Rel, si_App, ai_ow, si_AsgO, si_Par, is_Dict, is_Attr, ti_obj, is_Make, is_Meth, mi_obj, is_LenO, ni_obj, ni_tup, ni_lst, is_EqO, ei_obj, ei_tup, ei_lst, ei_int, is_IxO, xi_obj, xi_tup, xi_lst, si_SetA, ui_ob, is_Lc2, is_fnF, is_fnI, bi_t, bi_f, oi_some, List.getElem?_cons_zero, List.getElem?_cons_succ, List.set_cons_zero, List.set_cons_succ, List.length_cons, List.length_nil, Nat.reduceAdd, Nat.reduceLeDiff, true_and, and_true, lk_self, tg_name, tg_tup, tg_cons, tg_nil, Option.bind_some, List.cons_append, List.nil_append, setE_nil, setE_cons, wipe_nil, wipe_cons, setS_nil, setS_cons, add_int, sub_int, neg_int, lt_int, le_int, gt_int, ge_int, not_bl, dEq_int, dNe_int, pow6, pow7, pow8, pow9, pow10, pow18, int1, len_lst, len_tup, tuple_lst, list_tup, seq_lst, seq_tup, seq_scr, enum_lst, enum_tup, min_int, max_int, shot_spec hw]
    · have e : tieD cs (.tup ds) = false := by
        unfold tieD
        split
        · rename_i e; cases e; exact absurd rfl hl
        · rfl
      rw [decide_eq_true (show (ds.length : Int) ≠ 4 by omega)]
      simp only [is_2, is_1, is_Isi, is_B, is_Cons, is_Nil, is_Get, is_Var, vi_sh, is_C, is_Tup, is_Lst, is_Ite, is_And, is_Or, is_Call, is_Seq', is_L, is_Sl, pi_none, pi_some, ex_int, is_Chain, is_Lc, is_few, is_slNil, is_slSh, is_slOw, si_nx, si_rt, si_Seq, si_Skip, si_Break, si_Cont, si_RetN, si_Asg, si_Ret, si_Do, si_If, si_For, si_AsgT, si_Put, si_Rel, si_App, ai_ow, si_AsgO, si_Par, is_Dict, is_Attr, ti_obj, is_Make, is_Meth, mi_obj, is_LenO, ni_obj, ni_tup, ni_lst, is_EqO, ei_obj, ei_tup, ei_lst, ei_int, is_IxO, xi_obj, xi_tup, xi_lst, si_SetA, ui_ob, is_Lc2, is_fnF, is_fnI, bi_t, bi_f, oi_some, List.getElem?_cons_zero, List.getElem?_cons_succ, List.set_cons_zero, List.set_cons_succ, List.length_cons, List.length_nil, Nat.reduceAdd, Nat.reduceLeDiff, true_and, and_true, lk_self, tg_name, tg_tup, tg_cons, tg_nil, Option.bind_some, List.cons_append, List.nil_append, setE_nil, setE_cons, wipe_nil, wipe_cons, setS_nil, setS_cons, add_int, sub_int, neg_int, lt_int, le_int, gt_int, ge_int, not_bl, dEq_int, dNe_int, pow6, pow7, pow8, pow9, pow10, pow18, int1, len_lst, len_tup, tuple_lst, list_tup, seq_lst, seq_tup, seq_scr, enum_lst, enum_tup, min_int, max_int, e]
  | _ => simp only [isTupD, is_2, is_1, is_Isi, is_B, is_Cons, is_Nil, is_Get, is_Var, vi_sh, is_C, is_Tup, is_Lst, is_Ite, is_And, is_Or, is_Call, is_Seq', is_L, is_Sl, pi_none, pi_some, ex_int, is_Chain, is_Lc, is_few, is_slNil, is_slSh, is_slOw, si_nx, si_rt, si_Seq, si_Skip, si_Break, si_Cont, si_RetN, si_Asg, si_Ret, si_Do, si_If, si_For, si_AsgT, si_Put, si_Rel, si_App, ai_ow, si_AsgO, si_Par, is_Dict, is_Attr, ti_obj, is_Make, is_Meth, mi_obj, is_LenO, ni_obj, ni_tup, ni_lst, is_EqO, ei_obj, ei_tup, ei_lst, ei_int, is_IxO, xi_obj, xi_tup, xi_lst, si_SetA, ui_ob, is_Lc2, is_fnF, is_fnI, bi_t, bi_f, oi_some, List.getElem?_cons_zero, List.getElem?_cons_succ, List.set_cons_zero, List.set_cons_succ, List.length_cons, List.length_nil, Nat.reduceAdd, Nat.reduceLeDiff, true_and, and_true, lk_self, tg_name, tg_tup, tg_cons, tg_nil, Option.bind_some, List.cons_append, List.nil_append, setE_nil, setE_cons, wipe_nil, wipe_cons, setS_nil, setS_cons, add_int, sub_int, neg_int, lt_int, le_int, gt_int, ge_int, not_bl, dEq_int, dNe_int, pow6, pow7, pow8, pow9, pow10, pow18, int1, len_lst, len_tup, tuple_lst, list_tup, seq_lst, seq_tup, seq_scr, enum_lst, enum_tup, min_int, max_int, Bool.not_false, tieD]
end LW
set_option Elab.async false
set_option linter.all false
set_option maxRecDepth 100000
set_option maxHeartbeats 2000000
namespace LW
open PySem GI GP
theorem wt_stamps (ns : List Int) : WT (dStamps ns) := .tup wt_ints
theorem wt_cams (cs : Cams) : WT (dCams cs) := .tup fun d hd => by
  obtain ⟨ns, _, rfl⟩ := List.mem_map.mp hd
  exact wt_stamps ns
theorem mem_of_suffix {α : Type} {x : α} {r xs : List α} (h : (x :: r) <:+ xs) : x ∈ xs := h.subset (by simp)
theorem total_int (cs : Cams) : (cs.map fun ns => (ns.length : Int)).sum = (total cs : Int) := by
  unfold total
  induction cs with
  | nil => rfl
  | cons c cs ih =>
    simp only [List.map_cons, List.sum_cons] at ih ⊢
    rw [ih]
    simp
theorem le_sum : ∀ {xs : List Nat} {x : Nat}, x ∈ xs → x ≤ xs.sum
  | y :: ys, x, h => by
    rw [List.sum_cons]
    rcases List.mem_cons.mp h with e | e
    · omega
    · have := le_sum e
      omega
theorem needc_ok {cs : Cams} {st : Sto} {R : Dat → Sto → Prop} {E : XP} (h : OkCams cs) (k : R .non st) : Is (F_p_need_cameras [dCams cs] st) R E := by
  unfold F_p_need_cameras b_p_need_cameras_den
  simp only [is_2, is_1, is_Isi, is_B, is_Cons, is_Nil, is_Get, is_Var, vi_sh, is_C, is_Tup, is_Lst, is_Ite, is_And, is_Or, is_Call, is_Seq', is_L, is_Sl, pi_none, pi_some, ex_int, is_Chain, is_Lc, is_few, is_slNil, is_slSh, is_slOw, si_nx, si_rt, si_Seq, si_Skip, si_Break, si_Cont, si_RetN, si_Asg, si_Ret, si_Do, si_If, si_For, si_AsgT, si_Put, si_Rel, si_App, ai_ow, si_AsgO, si_Par, is_Dict, is_Attr, ti_obj, is_Make, is_Meth, mi_obj, is_LenO, ni_obj, ni_tup, ni_lst, is_EqO, ei_obj, ei_tup, ei_lst, ei_int, is_IxO, xi_obj, xi_tup, xi_lst, si_SetA, ui_ob, is_Lc2, is_fnF, is_fnI, bi_t, bi_f, oi_some, List.getElem?_cons_zero, List.getElem?_cons_succ, List.set_cons_zero, List.set_cons_succ, List.length_cons, List.length_nil, Nat.reduceAdd, Nat.reduceLeDiff, true_and, and_true, lk_self, tg_name, tg_tup, tg_cons, tg_nil, Option.bind_some, List.cons_append, List.nil_append, setE_nil, setE_cons, wipe_nil, wipe_cons, setS_nil, setS_cons, add_int, sub_int, neg_int, lt_int, le_int, gt_int, ge_int, not_bl, dEq_int, dNe_int, pow6, pow7, pow8, pow9, pow10, pow18, int1, len_lst, len_tup, tuple_lst, list_tup, seq_lst, seq_tup, seq_scr, enum_lst, enum_tup, min_int, max_int, ev_1_1, ev_1_2, ev_2_2, ev_1_3, ev_2_3, ev_3_3, ev_1_4, ev_2_4, ev_3_4, ev_4_4, ev_1_5, ev_2_5, ev_3_5, ev_4_5, ev_5_5, ev_1_6, ev_2_6, ev_3_6, ev_4_6, ev_5_6, ev_6_6, ev_1_7, ev_2_7, ev_3_7, ev_4_7, ev_5_7, ev_6_7, ev_7_7, ev_1_8, ev_2_8, ev_3_8, ev_4_8, ev_5_8, ev_6_8, ev_7_8, ev_8_8, ev_1_9, ev_2_9, ev_3_9, ev_4_9, ev_5_9, ev_6_9, ev_7_9, ev_8_9, ev_1_10, ev_2_10, ev_3_10, ev_4_10, ev_5_10, ev_6_10, ev_7_10, ev_8_10, ev_1_11, ev_2_11, ev_3_11, ev_4_11, ev_5_11, ev_6_11, ev_7_11, ev_8_11, ev_1_12, ev_2_12, ev_3_12, ev_4_12, ev_5_12, ev_6_12, ev_7_12, ev_8_12, ev_1_13, ev_2_13, ev_3_13, ev_4_13, ev_5_13, ev_6_13, ev_7_13, ev_8_13, ev_1_14, ev_2_14, ev_3_14, ev_4_14, ev_5_14, ev_6_14, ev_7_14, ev_8_14, ev_1_15, ev_2_15, ev_3_15, ev_4_15, ev_5_15, ev_6_15, ev_7_15, ev_8_15, ev_1_16, ev_2_16, ev_3_16, ev_4_16, ev_5_16, ev_6_16, ev_7_16, ev_8_16, ev_1_17, ev_2_17, ev_3_17, ev_4_17, ev_5_17, ev_6_17, ev_7_17, ev_8_17, ev_1_18, ev_2_18, ev_3_18, ev_4_18, ev_5_18, ev_6_18, ev_7_18, ev_8_18, ev_1_19, ev_2_19, ev_3_19, ev_4_19, ev_5_19, ev_6_19, ev_7_19, ev_8_19, ev_1_20, ev_2_20, ev_3_20, ev_4_20, ev_5_20, ev_6_20, ev_7_20, ev_8_20, ev_1_21, ev_2_21, ev_3_21, ev_4_21, ev_5_21, ev_6_21, ev_7_21, ev_8_21, isi_tup (wt_cams cs)]
  unfold dCams
  simp only [is_2, is_1, is_Isi, is_B, is_Cons, is_Nil, is_Get, is_Var, vi_sh, is_C, is_Tup, is_Lst, is_Ite, is_And, is_Or, is_Call, is_Seq', is_L, is_Sl, pi_none, pi_some, ex_int, is_Chain, is_Lc, is_few, is_slNil, is_slSh, is_slOw, si_nx, si_rt, si_Seq, si_Skip, si_Break, si_Cont, si_RetN, si_Asg, si_Ret, si_Do, si_If, si_For, si_AsgT, si_Put, si_Rel, si_App, ai_ow, si_AsgO, si_Par, is_Dict, is_Attr, ti_obj, is_Make, is_Meth, mi_obj, is_LenO, ni_obj, ni_tup, ni_lst, is_EqO, ei_obj, ei_tup, ei_lst, ei_int, is_IxO, xi_obj, xi_tup, xi_lst, si_SetA, ui_ob, is_Lc2, is_fnF, is_fnI, bi_t, bi_f, oi_some, List.getElem?_cons_zero, List.getElem?_cons_succ, List.set_cons_zero, List.set_cons_succ, List.length_cons, List.length_nil, Nat.reduceAdd, Nat.reduceLeDiff, true_and, and_true, lk_self, tg_name, tg_tup, tg_cons, tg_nil, Option.bind_some, List.cons_append, List.nil_append, setE_nil, setE_cons, wipe_nil, wipe_cons, setS_nil, setS_cons, add_int, sub_int, neg_int, lt_int, le_int, gt_int, ge_int, not_bl, dEq_int, dNe_int, pow6, pow7, pow8, pow9, pow10, pow18, int1, len_lst, len_tup, tuple_lst, list_tup, seq_lst, seq_tup, seq_scr, enum_lst, enum_tup, min_int, max_int, isTupD, Bool.not_true, List.length_map, bi_dec]
  have h1 := h.some
  have h2 := h.few
  refine ⟨fun _ => ?_, fun z => absurd (show (1 : Int) ≤ cs.length by omega) z⟩
  rw [decide_eq_true (show (cs.length : Int) ≤ 3 by omega)]
  simp only [is_2, is_1, is_Isi, is_B, is_Cons, is_Nil, is_Get, is_Var, vi_sh, is_C, is_Tup, is_Lst, is_Ite, is_And, is_Or, is_Call, is_Seq', is_L, is_Sl, pi_none, pi_some, ex_int, is_Chain, is_Lc, is_few, is_slNil, is_slSh, is_slOw, si_nx, si_rt, si_Seq, si_Skip, si_Break, si_Cont, si_RetN, si_Asg, si_Ret, si_Do, si_If, si_For, si_AsgT, si_Put, si_Rel, si_App, ai_ow, si_AsgO, si_Par, is_Dict, is_Attr, ti_obj, is_Make, is_Meth, mi_obj, is_LenO, ni_obj, ni_tup, ni_lst, is_EqO, ei_obj, ei_tup, ei_lst, ei_int, is_IxO, xi_obj, xi_tup, xi_lst, si_SetA, ui_ob, is_Lc2, is_fnF, is_fnI, bi_t, bi_f, oi_some, List.getElem?_cons_zero, List.getElem?_cons_succ, List.set_cons_zero, List.set_cons_succ, List.length_cons, List.length_nil, Nat.reduceAdd, Nat.reduceLeDiff, true_and, and_true, lk_self, tg_name, tg_tup, tg_cons, tg_nil, Option.bind_some, List.cons_append, List.nil_append, setE_nil, setE_cons, wipe_nil, wipe_cons, setS_nil, setS_cons, add_int, sub_int, neg_int, lt_int, le_int, gt_int, ge_int, not_bl, dEq_int, dNe_int, pow6, pow7, pow8, pow9, pow10, pow18, int1, len_lst, len_tup, tuple_lst, list_tup, seq_lst, seq_tup, seq_scr, enum_lst, enum_tup, min_int, max_int, Bool.not_true]
  rw [enumD_map]
  refine for_T (fun _ env st' => st' = st ∧ ∃ e1 e2, env = [some (.sh (.tup (cs.map dStamps))), e1, e2, none, none]) ?_ ?_ ⟨rfl, none, none, rfl⟩
  · rintro ⟨ns, i⟩ r env st' _ ⟨rfl, e1, e2, rfl⟩
    simp only [is_2, is_1, is_Isi, is_B, is_Cons, is_Nil, is_Get, is_Var, vi_sh, is_C, is_Tup, is_Lst, is_Ite, is_And, is_Or, is_Call, is_Seq', is_L, is_Sl, pi_none, pi_some, ex_int, is_Chain, is_Lc, is_few, is_slNil, is_slSh, is_slOw, si_nx, si_rt, si_Seq, si_Skip, si_Break, si_Cont, si_RetN, si_Asg, si_Ret, si_Do, si_If, si_For, si_AsgT, si_Put, si_Rel, si_App, ai_ow, si_AsgO, si_Par, is_Dict, is_Attr, ti_obj, is_Make, is_Meth, mi_obj, is_LenO, ni_obj, ni_tup, ni_lst, is_EqO, ei_obj, ei_tup, ei_lst, ei_int, is_IxO, xi_obj, xi_tup, xi_lst, si_SetA, ui_ob, is_Lc2, is_fnF, is_fnI, bi_t, bi_f, oi_some, List.getElem?_cons_zero, List.getElem?_cons_succ, List.set_cons_zero, List.set_cons_succ, List.length_cons, List.length_nil, Nat.reduceAdd, Nat.reduceLeDiff, true_and, and_true, lk_self, tg_name, tg_tup, tg_cons, tg_nil, Option.bind_some, List.cons_append, List.nil_append, setE_nil, setE_cons, wipe_nil, wipe_cons, setS_nil, setS_cons, add_int, sub_int, neg_int, lt_int, le_int, gt_int, ge_int, not_bl, dEq_int, dNe_int, pow6, pow7, pow8, pow9, pow10, pow18, int1, len_lst, len_tup, tuple_lst, list_tup, seq_lst, seq_tup, seq_scr, enum_lst, enum_tup, min_int, max_int, isi_tup (wt_stamps ns), isTupD, Bool.not_true]
    exact ⟨_, _, rfl⟩
  · rintro env st' ⟨rfl, e1, e2, rfl⟩
    simp only [is_2, is_1, is_Isi, is_B, is_Cons, is_Nil, is_Get, is_Var, vi_sh, is_C, is_Tup, is_Lst, is_Ite, is_And, is_Or, is_Call, is_Seq', is_L, is_Sl, pi_none, pi_some, ex_int, is_Chain, is_Lc, is_few, is_slNil, is_slSh, is_slOw, si_nx, si_rt, si_Seq, si_Skip, si_Break, si_Cont, si_RetN, si_Asg, si_Ret, si_Do, si_If, si_For, si_AsgT, si_Put, si_Rel, si_App, ai_ow, si_AsgO, si_Par, is_Dict, is_Attr, ti_obj, is_Make, is_Meth, mi_obj, is_LenO, ni_obj, ni_tup, ni_lst, is_EqO, ei_obj, ei_tup, ei_lst, ei_int, is_IxO, xi_obj, xi_tup, xi_lst, si_SetA, ui_ob, is_Lc2, is_fnF, is_fnI, bi_t, bi_f, oi_some, List.getElem?_cons_zero, List.getElem?_cons_succ, List.set_cons_zero, List.set_cons_succ, List.length_cons, List.length_nil, Nat.reduceAdd, Nat.reduceLeDiff, true_and, and_true, lk_self, tg_name, tg_tup, tg_cons, tg_nil, Option.bind_some, List.cons_append, List.nil_append, setE_nil, setE_cons, wipe_nil, wipe_cons, setS_nil, setS_cons, add_int, sub_int, neg_int, lt_int, le_int, gt_int, ge_int, not_bl, dEq_int, dNe_int, pow6, pow7, pow8, pow9, pow10, pow18, int1, len_lst, len_tup, tuple_lst, list_tup, seq_lst, seq_tup, seq_scr, enum_lst, enum_tup, min_int, max_int]
    rw [enumD_map]
    refine for_T (fun _ env st'' => st'' = st' ∧ ∃ e1 e2 e3 e4, env = [some (.sh (.tup (cs.map dStamps))), e1, e2, e3, e4]) ?_ ?_ ⟨rfl, e1, e2, none, none, rfl⟩
    · rintro ⟨ns, i⟩ r env st'' hsuf ⟨rfl, e1, e2, e3, e4, rfl⟩
      have hns : Stamps ns := h.each ns (List.fst_mem_of_mem_zipIdx (mem_of_suffix hsuf))
      simp only [is_2, is_1, is_Isi, is_B, is_Cons, is_Nil, is_Get, is_Var, vi_sh, is_C, is_Tup, is_Lst, is_Ite, is_And, is_Or, is_Call, is_Seq', is_L, is_Sl, pi_none, pi_some, ex_int, is_Chain, is_Lc, is_few, is_slNil, is_slSh, is_slOw, si_nx, si_rt, si_Seq, si_Skip, si_Break, si_Cont, si_RetN, si_Asg, si_Ret, si_Do, si_If, si_For, si_AsgT, si_Put, si_Rel, si_App, ai_ow, si_AsgO, si_Par, is_Dict, is_Attr, ti_obj, is_Make, is_Meth, mi_obj, is_LenO, ni_obj, ni_tup, ni_lst, is_EqO, ei_obj, ei_tup, ei_lst, ei_int, is_IxO, xi_obj, xi_tup, xi_lst, si_SetA, ui_ob, is_Lc2, is_fnF, is_fnI, bi_t, bi_f, oi_some, List.getElem?_cons_zero, List.getElem?_cons_succ, List.set_cons_zero, List.set_cons_succ, List.length_cons, List.length_nil, Nat.reduceAdd, Nat.reduceLeDiff, true_and, and_true, lk_self, tg_name, tg_tup, tg_cons, tg_nil, Option.bind_some, List.cons_append, List.nil_append, setE_nil, setE_cons, wipe_nil, wipe_cons, setS_nil, setS_cons, add_int, sub_int, neg_int, lt_int, le_int, gt_int, ge_int, not_bl, dEq_int, dNe_int, pow6, pow7, pow8, pow9, pow10, pow18, int1, len_lst, len_tup, tuple_lst, list_tup, seq_lst, seq_tup, seq_scr, enum_lst, enum_tup, min_int, max_int]
      rw [enumD_map]
      refine for_T (fun _ env st' => st' = st'' ∧ ∃ e3 e4, env = [some (.sh (.tup (cs.map dStamps))), some (.sh (.int (i : Int))), some (.sh (dStamps ns)), e3, e4]) ?_ ?_ ⟨rfl, e3, e4, rfl⟩
      · rintro ⟨x, j⟩ r env st' hs2 ⟨rfl, e3, e4, rfl⟩
        have hx := List.mem_zipIdx_iff_getElem?.mp (mem_of_suffix hs2)
        dsimp only at hx
        have hxm : x ∈ ns := List.mem_of_getElem? hx
        have hb := hns.2 x hxm
        simp only [is_2, is_1, is_Isi, is_B, is_Cons, is_Nil, is_Get, is_Var, vi_sh, is_C, is_Tup, is_Lst, is_Ite, is_And, is_Or, is_Call, is_Seq', is_L, is_Sl, pi_none, pi_some, ex_int, is_Chain, is_Lc, is_few, is_slNil, is_slSh, is_slOw, si_nx, si_rt, si_Seq, si_Skip, si_Break, si_Cont, si_RetN, si_Asg, si_Ret, si_Do, si_If, si_For, si_AsgT, si_Put, si_Rel, si_App, ai_ow, si_AsgO, si_Par, is_Dict, is_Attr, ti_obj, is_Make, is_Meth, mi_obj, is_LenO, ni_obj, ni_tup, ni_lst, is_EqO, ei_obj, ei_tup, ei_lst, ei_int, is_IxO, xi_obj, xi_tup, xi_lst, si_SetA, ui_ob, is_Lc2, is_fnF, is_fnI, bi_t, bi_f, oi_some, List.getElem?_cons_zero, List.getElem?_cons_succ, List.set_cons_zero, List.set_cons_succ, List.length_cons, List.length_nil, Nat.reduceAdd, Nat.reduceLeDiff, true_and, and_true, lk_self, tg_name, tg_tup, tg_cons, tg_nil, Option.bind_some, List.cons_append, List.nil_append, setE_nil, setE_cons, wipe_nil, wipe_cons, setS_nil, setS_cons, add_int, sub_int, neg_int, lt_int, le_int, gt_int, ge_int, not_bl, dEq_int, dNe_int, pow6, pow7, pow8, pow9, pow10, pow18, int1, len_lst, len_tup, tuple_lst, list_tup, seq_lst, seq_tup, seq_scr, enum_lst, enum_tup, min_int, max_int, whole_spec (WT.int x), wholeD]
        rw [decide_eq_true hb]
        simp only [is_2, is_1, is_Isi, is_B, is_Cons, is_Nil, is_Get, is_Var, vi_sh, is_C, is_Tup, is_Lst, is_Ite, is_And, is_Or, is_Call, is_Seq', is_L, is_Sl, pi_none, pi_some, ex_int, is_Chain, is_Lc, is_few, is_slNil, is_slSh, is_slOw, si_nx, si_rt, si_Seq, si_Skip, si_Break, si_Cont, si_RetN, si_Asg, si_Ret, si_Do, si_If, si_For, si_AsgT, si_Put, si_Rel, si_App, ai_ow, si_AsgO, si_Par, is_Dict, is_Attr, ti_obj, is_Make, is_Meth, mi_obj, is_LenO, ni_obj, ni_tup, ni_lst, is_EqO, ei_obj, ei_tup, ei_lst, ei_int, is_IxO, xi_obj, xi_tup, xi_lst, si_SetA, ui_ob, is_Lc2, is_fnF, is_fnI, bi_t, bi_f, oi_some, List.getElem?_cons_zero, List.getElem?_cons_succ, List.set_cons_zero, List.set_cons_succ, List.length_cons, List.length_nil, Nat.reduceAdd, Nat.reduceLeDiff, true_and, and_true, lk_self, tg_name, tg_tup, tg_cons, tg_nil, Option.bind_some, List.cons_append, List.nil_append, setE_nil, setE_cons, wipe_nil, wipe_cons, setS_nil, setS_cons, add_int, sub_int, neg_int, lt_int, le_int, gt_int, ge_int, not_bl, dEq_int, dNe_int, pow6, pow7, pow8, pow9, pow10, pow18, int1, len_lst, len_tup, tuple_lst, list_tup, seq_lst, seq_tup, seq_scr, enum_lst, enum_tup, min_int, max_int, Bool.not_true, bi_dec]
        have hj : j < ns.length := (List.getElem?_eq_some_iff.mp hx).1
        refine ⟨fun hj0 => ?_, fun _ => ⟨_, _, rfl⟩⟩
        have hj1 : j - 1 < ns.length := by omega
        rw [ix_t (by omega) (by simp; omega), show ((j : Int) - 1).toNat = j - 1 by omega, List.getElem?_map, List.getElem?_eq_getElem hj1]
        simp only [Option.map_some, is_2, is_1, is_Isi, is_B, is_Cons, is_Nil, is_Get, is_Var, vi_sh, is_C, is_Tup, is_Lst, is_Ite, is_And, is_Or, is_Call, is_Seq', is_L, is_Sl, pi_none, pi_some, ex_int, is_Chain, is_Lc, is_few, is_slNil, is_slSh, is_slOw, si_nx, si_rt, si_Seq, si_Skip, si_Break, si_Cont, si_RetN, si_Asg, si_Ret, si_Do, si_If, si_For, si_AsgT, si_Put, si_Rel, si_App, ai_ow, si_AsgO, si_Par, is_Dict, is_Attr, ti_obj, is_Make, is_Meth, mi_obj, is_LenO, ni_obj, ni_tup, ni_lst, is_EqO, ei_obj, ei_tup, ei_lst, ei_int, is_IxO, xi_obj, xi_tup, xi_lst, si_SetA, ui_ob, is_Lc2, is_fnF, is_fnI, bi_t, bi_f, oi_some, List.getElem?_cons_zero, List.getElem?_cons_succ, List.set_cons_zero, List.set_cons_succ, List.length_cons, List.length_nil, Nat.reduceAdd, Nat.reduceLeDiff, true_and, and_true, lk_self, tg_name, tg_tup, tg_cons, tg_nil, Option.bind_some, List.cons_append, List.nil_append, setE_nil, setE_cons, wipe_nil, wipe_cons, setS_nil, setS_cons, add_int, sub_int, neg_int, lt_int, le_int, gt_int, ge_int, not_bl, dEq_int, dNe_int, pow6, pow7, pow8, pow9, pow10, pow18, int1, len_lst, len_tup, tuple_lst, list_tup, seq_lst, seq_tup, seq_scr, enum_lst, enum_tup, min_int, max_int]
        have hle : ns[j - 1] ≤ x := by
          have := (List.getElem?_eq_some_iff.mp hx).2
          rw [← this]
          exact List.pairwise_iff_getElem.mp hns.1 (j - 1) j hj1 hj (by omega)
        rw [decide_eq_false (by omega)]
        simp only [is_2, is_1, is_Isi, is_B, is_Cons, is_Nil, is_Get, is_Var, vi_sh, is_C, is_Tup, is_Lst, is_Ite, is_And, is_Or, is_Call, is_Seq', is_L, is_Sl, pi_none, pi_some, ex_int, is_Chain, is_Lc, is_few, is_slNil, is_slSh, is_slOw, si_nx, si_rt, si_Seq, si_Skip, si_Break, si_Cont, si_RetN, si_Asg, si_Ret, si_Do, si_If, si_For, si_AsgT, si_Put, si_Rel, si_App, ai_ow, si_AsgO, si_Par, is_Dict, is_Attr, ti_obj, is_Make, is_Meth, mi_obj, is_LenO, ni_obj, ni_tup, ni_lst, is_EqO, ei_obj, ei_tup, ei_lst, ei_int, is_IxO, xi_obj, xi_tup, xi_lst, si_SetA, ui_ob, is_Lc2, is_fnF, is_fnI, bi_t, bi_f, oi_some, List.getElem?_cons_zero, List.getElem?_cons_succ, List.set_cons_zero, List.set_cons_succ, List.length_cons, List.length_nil, Nat.reduceAdd, Nat.reduceLeDiff, true_and, and_true, lk_self, tg_name, tg_tup, tg_cons, tg_nil, Option.bind_some, List.cons_append, List.nil_append, setE_nil, setE_cons, wipe_nil, wipe_cons, setS_nil, setS_cons, add_int, sub_int, neg_int, lt_int, le_int, gt_int, ge_int, not_bl, dEq_int, dNe_int, pow6, pow7, pow8, pow9, pow10, pow18, int1, len_lst, len_tup, tuple_lst, list_tup, seq_lst, seq_tup, seq_scr, enum_lst, enum_tup, min_int, max_int]
        exact ⟨_, _, rfl⟩
      · rintro env st' ⟨rfl, e3, e4, rfl⟩
        exact ⟨rfl, _, _, _, _, rfl⟩
    · rintro env st'' ⟨rfl, e1, e2, e3, e4, rfl⟩
      simp only [is_2, is_1, is_Isi, is_B, is_Cons, is_Nil, is_Get, is_Var, vi_sh, is_C, is_Tup, is_Lst, is_Ite, is_And, is_Or, is_Call, is_Seq', is_L, is_Sl, pi_none, pi_some, ex_int, is_Chain, is_Lc, is_few, is_slNil, is_slSh, is_slOw, si_nx, si_rt, si_Seq, si_Skip, si_Break, si_Cont, si_RetN, si_Asg, si_Ret, si_Do, si_If, si_For, si_AsgT, si_Put, si_Rel, si_App, ai_ow, si_AsgO, si_Par, is_Dict, is_Attr, ti_obj, is_Make, is_Meth, mi_obj, is_LenO, ni_obj, ni_tup, ni_lst, is_EqO, ei_obj, ei_tup, ei_lst, ei_int, is_IxO, xi_obj, xi_tup, xi_lst, si_SetA, ui_ob, is_Lc2, is_fnF, is_fnI, bi_t, bi_f, oi_some, List.getElem?_cons_zero, List.getElem?_cons_succ, List.set_cons_zero, List.set_cons_succ, List.length_cons, List.length_nil, Nat.reduceAdd, Nat.reduceLeDiff, true_and, and_true, lk_self, tg_name, tg_tup, tg_cons, tg_nil, Option.bind_some, List.cons_append, List.nil_append, setE_nil, setE_cons, wipe_nil, wipe_cons, setS_nil, setS_cons, add_int, sub_int, neg_int, lt_int, le_int, gt_int, ge_int, not_bl, dEq_int, dNe_int, pow6, pow7, pow8, pow9, pow10, pow18, int1, len_lst, len_tup, tuple_lst, list_tup, seq_lst, seq_tup, seq_scr, enum_lst, enum_tup, min_int, max_int, List.length_map]
      refine ⟨by omega, lc_mapT (enc := dStamps) (fun ns => .int (ns.length : Int)) (fun ns _ => ?_) ?_⟩
      · simp only [is_2, is_1, is_Isi, is_B, is_Cons, is_Nil, is_Get, is_Var, vi_sh, is_C, is_Tup, is_Lst, is_Ite, is_And, is_Or, is_Call, is_Seq', is_L, is_Sl, pi_none, pi_some, ex_int, is_Chain, is_Lc, is_few, is_slNil, is_slSh, is_slOw, si_nx, si_rt, si_Seq, si_Skip, si_Break, si_Cont, si_RetN, si_Asg, si_Ret, si_Do, si_If, si_For, si_AsgT, si_Put, si_Rel, si_App, ai_ow, si_AsgO, si_Par, is_Dict, is_Attr, ti_obj, is_Make, is_Meth, mi_obj, is_LenO, ni_obj, ni_tup, ni_lst, is_EqO, ei_obj, ei_tup, ei_lst, ei_int, is_IxO, xi_obj, xi_tup, xi_lst, si_SetA, ui_ob, is_Lc2, is_fnF, is_fnI, bi_t, bi_f, oi_some, List.getElem?_cons_zero, List.getElem?_cons_succ, List.set_cons_zero, List.set_cons_succ, List.length_cons, List.length_nil, Nat.reduceAdd, Nat.reduceLeDiff, true_and, and_true, lk_self, tg_name, tg_tup, tg_cons, tg_nil, Option.bind_some, List.cons_append, List.nil_append, setE_nil, setE_cons, wipe_nil, wipe_cons, setS_nil, setS_cons, add_int, sub_int, neg_int, lt_int, le_int, gt_int, ge_int, not_bl, dEq_int, dNe_int, pow6, pow7, pow8, pow9, pow10, pow18, int1, len_lst, len_tup, tuple_lst, list_tup, seq_lst, seq_tup, seq_scr, enum_lst, enum_tup, min_int, max_int, List.length_map]
      · rw [show (cs.map fun ns => Dat.int (ns.length : Int)) = (cs.map fun ns => (ns.length : Int)).map Dat.int by simp, sum_ints, total_int]
        have := h.tot
        simp only [is_2, is_1, is_Isi, is_B, is_Cons, is_Nil, is_Get, is_Var, vi_sh, is_C, is_Tup, is_Lst, is_Ite, is_And, is_Or, is_Call, is_Seq', is_L, is_Sl, pi_none, pi_some, ex_int, is_Chain, is_Lc, is_few, is_slNil, is_slSh, is_slOw, si_nx, si_rt, si_Seq, si_Skip, si_Break, si_Cont, si_RetN, si_Asg, si_Ret, si_Do, si_If, si_For, si_AsgT, si_Put, si_Rel, si_App, ai_ow, si_AsgO, si_Par, is_Dict, is_Attr, ti_obj, is_Make, is_Meth, mi_obj, is_LenO, ni_obj, ni_tup, ni_lst, is_EqO, ei_obj, ei_tup, ei_lst, ei_int, is_IxO, xi_obj, xi_tup, xi_lst, si_SetA, ui_ob, is_Lc2, is_fnF, is_fnI, bi_t, bi_f, oi_some, List.getElem?_cons_zero, List.getElem?_cons_succ, List.set_cons_zero, List.set_cons_succ, List.length_cons, List.length_nil, Nat.reduceAdd, Nat.reduceLeDiff, true_and, and_true, lk_self, tg_name, tg_tup, tg_cons, tg_nil, Option.bind_some, List.cons_append, List.nil_append, setE_nil, setE_cons, wipe_nil, wipe_cons, setS_nil, setS_cons, add_int, sub_int, neg_int, lt_int, le_int, gt_int, ge_int, not_bl, dEq_int, dNe_int, pow6, pow7, pow8, pow9, pow10, pow18, int1, len_lst, len_tup, tuple_lst, list_tup, seq_lst, seq_tup, seq_scr, enum_lst, enum_tup, min_int, max_int]
        rw [decide_eq_false (by omega)]
        exact k
theorem wt_pair (b : Int × Int) : WT (dPair b) := .tup fun d hd => by
  rcases List.mem_cons.mp hd with e | e
  · rw [e]; exact .int _
  · rw [List.mem_singleton.mp e]; exact .int _
theorem wt_shot (s : Nat × Nat) : WT (dShot s) := Pn.wt (pn_shot (n := 0) s)
theorem wt_tie (t : Tie) : WT (dTie t) := .tup fun d hd => by
  simp only [List.mem_cons, List.not_mem_nil, or_false] at hd
  rcases hd with e | e | e | e <;> rw [e]
  · exact wt_shot _
  · exact wt_shot _
  · exact .int _
  · exact .int _
theorem wt_bounds (bs : List (Int × Int)) : WT (dBounds bs) := .tup fun d hd => by
  obtain ⟨b, _, rfl⟩ := List.mem_map.mp hd
  exact wt_pair b
theorem wt_ties (ts : List Tie) : WT (dTies ts) := .tup fun d hd => by
  obtain ⟨b, _, rfl⟩ := List.mem_map.mp hd
  exact wt_tie b
theorem tieD_of {cs : Cams} {t : Tie} (h : OkTie cs t) : tieD cs (dTie t) = true := by
  obtain ⟨h1, h2, h3⟩ := h
  show (shotD cs (dShot t.s) && shotD cs (dShot t.t) && decide (-10000000000 ≤ t.lo ∧ t.lo ≤ t.hi ∧ t.hi ≤ 10000000000)) = true
  rw [shotD_of h1, shotD_of h2, decide_eq_true h3]
  rfl
theorem needr_ok {p : Pl} {st : Sto} {R : Dat → Sto → Prop} {E : XP} (h : OkP p) (k : R .non st) : Is (F_p_need_rest [dCams p.cams, dBounds p.bounds, dTies p.ties, .int p.gap] st) R E := by
  unfold F_p_need_rest b_p_need_rest_den
  simp only [is_2, is_1, is_Isi, is_B, is_Cons, is_Nil, is_Get, is_Var, vi_sh, is_C, is_Tup, is_Lst, is_Ite, is_And, is_Or, is_Call, is_Seq', is_L, is_Sl, pi_none, pi_some, ex_int, is_Chain, is_Lc, is_few, is_slNil, is_slSh, is_slOw, si_nx, si_rt, si_Seq, si_Skip, si_Break, si_Cont, si_RetN, si_Asg, si_Ret, si_Do, si_If, si_For, si_AsgT, si_Put, si_Rel, si_App, ai_ow, si_AsgO, si_Par, is_Dict, is_Attr, ti_obj, is_Make, is_Meth, mi_obj, is_LenO, ni_obj, ni_tup, ni_lst, is_EqO, ei_obj, ei_tup, ei_lst, ei_int, is_IxO, xi_obj, xi_tup, xi_lst, si_SetA, ui_ob, is_Lc2, is_fnF, is_fnI, bi_t, bi_f, oi_some, List.getElem?_cons_zero, List.getElem?_cons_succ, List.set_cons_zero, List.set_cons_succ, List.length_cons, List.length_nil, Nat.reduceAdd, Nat.reduceLeDiff, true_and, and_true, lk_self, tg_name, tg_tup, tg_cons, tg_nil, Option.bind_some, List.cons_append, List.nil_append, setE_nil, setE_cons, wipe_nil, wipe_cons, setS_nil, setS_cons, add_int, sub_int, neg_int, lt_int, le_int, gt_int, ge_int, not_bl, dEq_int, dNe_int, pow6, pow7, pow8, pow9, pow10, pow18, int1, len_lst, len_tup, tuple_lst, list_tup, seq_lst, seq_tup, seq_scr, enum_lst, enum_tup, min_int, max_int, ev_1_1, ev_1_2, ev_2_2, ev_1_3, ev_2_3, ev_3_3, ev_1_4, ev_2_4, ev_3_4, ev_4_4, ev_1_5, ev_2_5, ev_3_5, ev_4_5, ev_5_5, ev_1_6, ev_2_6, ev_3_6, ev_4_6, ev_5_6, ev_6_6, ev_1_7, ev_2_7, ev_3_7, ev_4_7, ev_5_7, ev_6_7, ev_7_7, ev_1_8, ev_2_8, ev_3_8, ev_4_8, ev_5_8, ev_6_8, ev_7_8, ev_8_8, ev_1_9, ev_2_9, ev_3_9, ev_4_9, ev_5_9, ev_6_9, ev_7_9, ev_8_9, ev_1_10, ev_2_10, ev_3_10, ev_4_10, ev_5_10, ev_6_10, ev_7_10, ev_8_10, ev_1_11, ev_2_11, ev_3_11, ev_4_11, ev_5_11, ev_6_11, ev_7_11, ev_8_11, ev_1_12, ev_2_12, ev_3_12, ev_4_12, ev_5_12, ev_6_12, ev_7_12, ev_8_12, ev_1_13, ev_2_13, ev_3_13, ev_4_13, ev_5_13, ev_6_13, ev_7_13, ev_8_13, ev_1_14, ev_2_14, ev_3_14, ev_4_14, ev_5_14, ev_6_14, ev_7_14, ev_8_14, ev_1_15, ev_2_15, ev_3_15, ev_4_15, ev_5_15, ev_6_15, ev_7_15, ev_8_15, ev_1_16, ev_2_16, ev_3_16, ev_4_16, ev_5_16, ev_6_16, ev_7_16, ev_8_16, ev_1_17, ev_2_17, ev_3_17, ev_4_17, ev_5_17, ev_6_17, ev_7_17, ev_8_17, ev_1_18, ev_2_18, ev_3_18, ev_4_18, ev_5_18, ev_6_18, ev_7_18, ev_8_18, ev_1_19, ev_2_19, ev_3_19, ev_4_19, ev_5_19, ev_6_19, ev_7_19, ev_8_19, ev_1_20, ev_2_20, ev_3_20, ev_4_20, ev_5_20, ev_6_20, ev_7_20, ev_8_20, ev_1_21, ev_2_21, ev_3_21, ev_4_21, ev_5_21, ev_6_21, ev_7_21, ev_8_21, isi_tup (wt_bounds p.bounds), isi_tup (wt_ties p.ties)]
  rw [show dLen [dCams p.cams] = some (.int (p.cams.length : Int)) by unfold dCams; rw [len_tup, List.length_map]]
  have hl := h.blen
  have ht := h.tlen
  simp only [is_2, is_1, is_Isi, is_B, is_Cons, is_Nil, is_Get, is_Var, vi_sh, is_C, is_Tup, is_Lst, is_Ite, is_And, is_Or, is_Call, is_Seq', is_L, is_Sl, pi_none, pi_some, ex_int, is_Chain, is_Lc, is_few, is_slNil, is_slSh, is_slOw, si_nx, si_rt, si_Seq, si_Skip, si_Break, si_Cont, si_RetN, si_Asg, si_Ret, si_Do, si_If, si_For, si_AsgT, si_Put, si_Rel, si_App, ai_ow, si_AsgO, si_Par, is_Dict, is_Attr, ti_obj, is_Make, is_Meth, mi_obj, is_LenO, ni_obj, ni_tup, ni_lst, is_EqO, ei_obj, ei_tup, ei_lst, ei_int, is_IxO, xi_obj, xi_tup, xi_lst, si_SetA, ui_ob, is_Lc2, is_fnF, is_fnI, bi_t, bi_f, oi_some, List.getElem?_cons_zero, List.getElem?_cons_succ, List.set_cons_zero, List.set_cons_succ, List.length_cons, List.length_nil, Nat.reduceAdd, Nat.reduceLeDiff, true_and, and_true, lk_self, tg_name, tg_tup, tg_cons, tg_nil, Option.bind_some, List.cons_append, List.nil_append, setE_nil, setE_cons, wipe_nil, wipe_cons, setS_nil, setS_cons, add_int, sub_int, neg_int, lt_int, le_int, gt_int, ge_int, not_bl, dEq_int, dNe_int, pow6, pow7, pow8, pow9, pow10, pow18, int1, len_lst, len_tup, tuple_lst, list_tup, seq_lst, seq_tup, seq_scr, enum_lst, enum_tup, min_int, max_int, isTupD, Bool.not_true, List.length_map]
  rw [decide_eq_false (show ¬ ((p.bounds.length : Int) ≠ p.cams.length) by omega)]
  simp only [is_2, is_1, is_Isi, is_B, is_Cons, is_Nil, is_Get, is_Var, vi_sh, is_C, is_Tup, is_Lst, is_Ite, is_And, is_Or, is_Call, is_Seq', is_L, is_Sl, pi_none, pi_some, ex_int, is_Chain, is_Lc, is_few, is_slNil, is_slSh, is_slOw, si_nx, si_rt, si_Seq, si_Skip, si_Break, si_Cont, si_RetN, si_Asg, si_Ret, si_Do, si_If, si_For, si_AsgT, si_Put, si_Rel, si_App, ai_ow, si_AsgO, si_Par, is_Dict, is_Attr, ti_obj, is_Make, is_Meth, mi_obj, is_LenO, ni_obj, ni_tup, ni_lst, is_EqO, ei_obj, ei_tup, ei_lst, ei_int, is_IxO, xi_obj, xi_tup, xi_lst, si_SetA, ui_ob, is_Lc2, is_fnF, is_fnI, bi_t, bi_f, oi_some, List.getElem?_cons_zero, List.getElem?_cons_succ, List.set_cons_zero, List.set_cons_succ, List.length_cons, List.length_nil, Nat.reduceAdd, Nat.reduceLeDiff, true_and, and_true, lk_self, tg_name, tg_tup, tg_cons, tg_nil, Option.bind_some, List.cons_append, List.nil_append, setE_nil, setE_cons, wipe_nil, wipe_cons, setS_nil, setS_cons, add_int, sub_int, neg_int, lt_int, le_int, gt_int, ge_int, not_bl, dEq_int, dNe_int, pow6, pow7, pow8, pow9, pow10, pow18, int1, len_lst, len_tup, tuple_lst, list_tup, seq_lst, seq_tup, seq_scr, enum_lst, enum_tup, min_int, max_int]
  rw [enumD_map]
  refine for_T (fun _ env st' => st' = st ∧ ∃ e4 e5, env = [some (.sh (dCams p.cams)), some (.sh (dBounds p.bounds)), some (.sh (dTies p.ties)), some (.sh (.int p.gap)), e4, e5, none]) ?_ ?_ ⟨rfl, none, none, rfl⟩
  · rintro ⟨b, i⟩ r env st' hs ⟨rfl, e4, e5, rfl⟩
    have hb := h.bounds b (List.fst_mem_of_mem_zipIdx (mem_of_suffix hs))
    simp only [is_2, is_1, is_Isi, is_B, is_Cons, is_Nil, is_Get, is_Var, vi_sh, is_C, is_Tup, is_Lst, is_Ite, is_And, is_Or, is_Call, is_Seq', is_L, is_Sl, pi_none, pi_some, ex_int, is_Chain, is_Lc, is_few, is_slNil, is_slSh, is_slOw, si_nx, si_rt, si_Seq, si_Skip, si_Break, si_Cont, si_RetN, si_Asg, si_Ret, si_Do, si_If, si_For, si_AsgT, si_Put, si_Rel, si_App, ai_ow, si_AsgO, si_Par, is_Dict, is_Attr, ti_obj, is_Make, is_Meth, mi_obj, is_LenO, ni_obj, ni_tup, ni_lst, is_EqO, ei_obj, ei_tup, ei_lst, ei_int, is_IxO, xi_obj, xi_tup, xi_lst, si_SetA, ui_ob, is_Lc2, is_fnF, is_fnI, bi_t, bi_f, oi_some, List.getElem?_cons_zero, List.getElem?_cons_succ, List.set_cons_zero, List.set_cons_succ, List.length_cons, List.length_nil, Nat.reduceAdd, Nat.reduceLeDiff, true_and, and_true, lk_self, tg_name, tg_tup, tg_cons, tg_nil, Option.bind_some, List.cons_append, List.nil_append, setE_nil, setE_cons, wipe_nil, wipe_cons, setS_nil, setS_cons, add_int, sub_int, neg_int, lt_int, le_int, gt_int, ge_int, not_bl, dEq_int, dNe_int, pow6, pow7, pow8, pow9, pow10, pow18, int1, len_lst, len_tup, tuple_lst, list_tup, seq_lst, seq_tup, seq_scr, enum_lst, enum_tup, min_int, max_int, bounds_spec (wt_pair b), isPairD]
    rw [decide_eq_true (show -1000000000 ≤ b.1 ∧ b.1 ≤ b.2 ∧ b.2 ≤ 1000000000 from hb)]
    simp only [is_2, is_1, is_Isi, is_B, is_Cons, is_Nil, is_Get, is_Var, vi_sh, is_C, is_Tup, is_Lst, is_Ite, is_And, is_Or, is_Call, is_Seq', is_L, is_Sl, pi_none, pi_some, ex_int, is_Chain, is_Lc, is_few, is_slNil, is_slSh, is_slOw, si_nx, si_rt, si_Seq, si_Skip, si_Break, si_Cont, si_RetN, si_Asg, si_Ret, si_Do, si_If, si_For, si_AsgT, si_Put, si_Rel, si_App, ai_ow, si_AsgO, si_Par, is_Dict, is_Attr, ti_obj, is_Make, is_Meth, mi_obj, is_LenO, ni_obj, ni_tup, ni_lst, is_EqO, ei_obj, ei_tup, ei_lst, ei_int, is_IxO, xi_obj, xi_tup, xi_lst, si_SetA, ui_ob, is_Lc2, is_fnF, is_fnI, bi_t, bi_f, oi_some, List.getElem?_cons_zero, List.getElem?_cons_succ, List.set_cons_zero, List.set_cons_succ, List.length_cons, List.length_nil, Nat.reduceAdd, Nat.reduceLeDiff, true_and, and_true, lk_self, tg_name, tg_tup, tg_cons, tg_nil, Option.bind_some, List.cons_append, List.nil_append, setE_nil, setE_cons, wipe_nil, wipe_cons, setS_nil, setS_cons, add_int, sub_int, neg_int, lt_int, le_int, gt_int, ge_int, not_bl, dEq_int, dNe_int, pow6, pow7, pow8, pow9, pow10, pow18, int1, len_lst, len_tup, tuple_lst, list_tup, seq_lst, seq_tup, seq_scr, enum_lst, enum_tup, min_int, max_int, Bool.not_true]
    exact ⟨_, _, rfl⟩
  · rintro env st' ⟨rfl, e4, e5, rfl⟩
    simp only [is_2, is_1, is_Isi, is_B, is_Cons, is_Nil, is_Get, is_Var, vi_sh, is_C, is_Tup, is_Lst, is_Ite, is_And, is_Or, is_Call, is_Seq', is_L, is_Sl, pi_none, pi_some, ex_int, is_Chain, is_Lc, is_few, is_slNil, is_slSh, is_slOw, si_nx, si_rt, si_Seq, si_Skip, si_Break, si_Cont, si_RetN, si_Asg, si_Ret, si_Do, si_If, si_For, si_AsgT, si_Put, si_Rel, si_App, ai_ow, si_AsgO, si_Par, is_Dict, is_Attr, ti_obj, is_Make, is_Meth, mi_obj, is_LenO, ni_obj, ni_tup, ni_lst, is_EqO, ei_obj, ei_tup, ei_lst, ei_int, is_IxO, xi_obj, xi_tup, xi_lst, si_SetA, ui_ob, is_Lc2, is_fnF, is_fnI, bi_t, bi_f, oi_some, List.getElem?_cons_zero, List.getElem?_cons_succ, List.set_cons_zero, List.set_cons_succ, List.length_cons, List.length_nil, Nat.reduceAdd, Nat.reduceLeDiff, true_and, and_true, lk_self, tg_name, tg_tup, tg_cons, tg_nil, Option.bind_some, List.cons_append, List.nil_append, setE_nil, setE_cons, wipe_nil, wipe_cons, setS_nil, setS_cons, add_int, sub_int, neg_int, lt_int, le_int, gt_int, ge_int, not_bl, dEq_int, dNe_int, pow6, pow7, pow8, pow9, pow10, pow18, int1, len_lst, len_tup, tuple_lst, list_tup, seq_lst, seq_tup, seq_scr, enum_lst, enum_tup, min_int, max_int, isi_tup (wt_ties p.ties), isTupD, Bool.not_true, List.length_map]
    rw [decide_eq_false (show ¬ ((12 : Int) < p.ties.length) by omega)]
    simp only [is_2, is_1, is_Isi, is_B, is_Cons, is_Nil, is_Get, is_Var, vi_sh, is_C, is_Tup, is_Lst, is_Ite, is_And, is_Or, is_Call, is_Seq', is_L, is_Sl, pi_none, pi_some, ex_int, is_Chain, is_Lc, is_few, is_slNil, is_slSh, is_slOw, si_nx, si_rt, si_Seq, si_Skip, si_Break, si_Cont, si_RetN, si_Asg, si_Ret, si_Do, si_If, si_For, si_AsgT, si_Put, si_Rel, si_App, ai_ow, si_AsgO, si_Par, is_Dict, is_Attr, ti_obj, is_Make, is_Meth, mi_obj, is_LenO, ni_obj, ni_tup, ni_lst, is_EqO, ei_obj, ei_tup, ei_lst, ei_int, is_IxO, xi_obj, xi_tup, xi_lst, si_SetA, ui_ob, is_Lc2, is_fnF, is_fnI, bi_t, bi_f, oi_some, List.getElem?_cons_zero, List.getElem?_cons_succ, List.set_cons_zero, List.set_cons_succ, List.length_cons, List.length_nil, Nat.reduceAdd, Nat.reduceLeDiff, true_and, and_true, lk_self, tg_name, tg_tup, tg_cons, tg_nil, Option.bind_some, List.cons_append, List.nil_append, setE_nil, setE_cons, wipe_nil, wipe_cons, setS_nil, setS_cons, add_int, sub_int, neg_int, lt_int, le_int, gt_int, ge_int, not_bl, dEq_int, dNe_int, pow6, pow7, pow8, pow9, pow10, pow18, int1, len_lst, len_tup, tuple_lst, list_tup, seq_lst, seq_tup, seq_scr, enum_lst, enum_tup, min_int, max_int]
    rw [enumD_map]
    refine for_T (fun _ env st'' => st'' = st' ∧ ∃ e4 e6, env = [some (.sh (dCams p.cams)), some (.sh (dBounds p.bounds)), some (.sh (dTies p.ties)), some (.sh (.int p.gap)), e4, e5, e6]) ?_ ?_ ⟨rfl, e4, none, rfl⟩
    · rintro ⟨t, i⟩ r env st'' hs ⟨rfl, e4, e6, rfl⟩
      have hb := h.ties t (List.fst_mem_of_mem_zipIdx (mem_of_suffix hs))
      simp only [is_2, is_1, is_Isi, is_B, is_Cons, is_Nil, is_Get, is_Var, vi_sh, is_C, is_Tup, is_Lst, is_Ite, is_And, is_Or, is_Call, is_Seq', is_L, is_Sl, pi_none, pi_some, ex_int, is_Chain, is_Lc, is_few, is_slNil, is_slSh, is_slOw, si_nx, si_rt, si_Seq, si_Skip, si_Break, si_Cont, si_RetN, si_Asg, si_Ret, si_Do, si_If, si_For, si_AsgT, si_Put, si_Rel, si_App, ai_ow, si_AsgO, si_Par, is_Dict, is_Attr, ti_obj, is_Make, is_Meth, mi_obj, is_LenO, ni_obj, ni_tup, ni_lst, is_EqO, ei_obj, ei_tup, ei_lst, ei_int, is_IxO, xi_obj, xi_tup, xi_lst, si_SetA, ui_ob, is_Lc2, is_fnF, is_fnI, bi_t, bi_f, oi_some, List.getElem?_cons_zero, List.getElem?_cons_succ, List.set_cons_zero, List.set_cons_succ, List.length_cons, List.length_nil, Nat.reduceAdd, Nat.reduceLeDiff, true_and, and_true, lk_self, tg_name, tg_tup, tg_cons, tg_nil, Option.bind_some, List.cons_append, List.nil_append, setE_nil, setE_cons, wipe_nil, wipe_cons, setS_nil, setS_cons, add_int, sub_int, neg_int, lt_int, le_int, gt_int, ge_int, not_bl, dEq_int, dNe_int, pow6, pow7, pow8, pow9, pow10, pow18, int1, len_lst, len_tup, tuple_lst, list_tup, seq_lst, seq_tup, seq_scr, enum_lst, enum_tup, min_int, max_int, tie_spec (wt_tie t), tieD_of hb, Bool.not_true]
      exact ⟨_, _, rfl⟩
    · rintro env st'' ⟨rfl, e4, e6, rfl⟩
      simp only [is_2, is_1, is_Isi, is_B, is_Cons, is_Nil, is_Get, is_Var, vi_sh, is_C, is_Tup, is_Lst, is_Ite, is_And, is_Or, is_Call, is_Seq', is_L, is_Sl, pi_none, pi_some, ex_int, is_Chain, is_Lc, is_few, is_slNil, is_slSh, is_slOw, si_nx, si_rt, si_Seq, si_Skip, si_Break, si_Cont, si_RetN, si_Asg, si_Ret, si_Do, si_If, si_For, si_AsgT, si_Put, si_Rel, si_App, ai_ow, si_AsgO, si_Par, is_Dict, is_Attr, ti_obj, is_Make, is_Meth, mi_obj, is_LenO, ni_obj, ni_tup, ni_lst, is_EqO, ei_obj, ei_tup, ei_lst, ei_int, is_IxO, xi_obj, xi_tup, xi_lst, si_SetA, ui_ob, is_Lc2, is_fnF, is_fnI, bi_t, bi_f, oi_some, List.getElem?_cons_zero, List.getElem?_cons_succ, List.set_cons_zero, List.set_cons_succ, List.length_cons, List.length_nil, Nat.reduceAdd, Nat.reduceLeDiff, true_and, and_true, lk_self, tg_name, tg_tup, tg_cons, tg_nil, Option.bind_some, List.cons_append, List.nil_append, setE_nil, setE_cons, wipe_nil, wipe_cons, setS_nil, setS_cons, add_int, sub_int, neg_int, lt_int, le_int, gt_int, ge_int, not_bl, dEq_int, dNe_int, pow6, pow7, pow8, pow9, pow10, pow18, int1, len_lst, len_tup, tuple_lst, list_tup, seq_lst, seq_tup, seq_scr, enum_lst, enum_tup, min_int, max_int, whole_spec (WT.int p.gap), wholeD]
      rw [decide_eq_true ⟨h.gap0, h.gap1⟩]
      simp only [is_2, is_1, is_Isi, is_B, is_Cons, is_Nil, is_Get, is_Var, vi_sh, is_C, is_Tup, is_Lst, is_Ite, is_And, is_Or, is_Call, is_Seq', is_L, is_Sl, pi_none, pi_some, ex_int, is_Chain, is_Lc, is_few, is_slNil, is_slSh, is_slOw, si_nx, si_rt, si_Seq, si_Skip, si_Break, si_Cont, si_RetN, si_Asg, si_Ret, si_Do, si_If, si_For, si_AsgT, si_Put, si_Rel, si_App, ai_ow, si_AsgO, si_Par, is_Dict, is_Attr, ti_obj, is_Make, is_Meth, mi_obj, is_LenO, ni_obj, ni_tup, ni_lst, is_EqO, ei_obj, ei_tup, ei_lst, ei_int, is_IxO, xi_obj, xi_tup, xi_lst, si_SetA, ui_ob, is_Lc2, is_fnF, is_fnI, bi_t, bi_f, oi_some, List.getElem?_cons_zero, List.getElem?_cons_succ, List.set_cons_zero, List.set_cons_succ, List.length_cons, List.length_nil, Nat.reduceAdd, Nat.reduceLeDiff, true_and, and_true, lk_self, tg_name, tg_tup, tg_cons, tg_nil, Option.bind_some, List.cons_append, List.nil_append, setE_nil, setE_cons, wipe_nil, wipe_cons, setS_nil, setS_cons, add_int, sub_int, neg_int, lt_int, le_int, gt_int, ge_int, not_bl, dEq_int, dNe_int, pow6, pow7, pow8, pow9, pow10, pow18, int1, len_lst, len_tup, tuple_lst, list_tup, seq_lst, seq_tup, seq_scr, enum_lst, enum_tup, min_int, max_int, Bool.not_true]
      exact k
theorem make_ok {p : Pl} {st : Sto} {R : Dat → Sto → Prop} {E : XP} (h : OkP p) (k : R (dSet p) st) : Is (F_m_Setting_init [dCams p.cams, dBounds p.bounds, dTies p.ties, .int p.gap] st) R E := by
  unfold F_m_Setting_init b_m_Setting_init_den
  rw [is_fnI, show envI "Setting" 4 4 [dCams p.cams, dBounds p.bounds, dTies p.ties, .int p.gap] = [some (.ob "Setting" [none, none, none, none]), some (.sh (dCams p.cams)), some (.sh (dBounds p.bounds)), some (.sh (dTies p.ties)), some (.sh (.int p.gap))] from rfl]
  simp only [is_2, is_1, is_Isi, is_B, is_Cons, is_Nil, is_Get, is_Var, vi_sh, is_C, is_Tup, is_Lst, is_Ite, is_And, is_Or, is_Call, is_Seq', is_L, is_Sl, pi_none, pi_some, ex_int, is_Chain, is_Lc, is_few, is_slNil, is_slSh, is_slOw, si_nx, si_rt, si_Seq, si_Skip, si_Break, si_Cont, si_RetN, si_Asg, si_Ret, si_Do, si_If, si_For, si_AsgT, si_Put, si_Rel, si_App, ai_ow, si_AsgO, si_Par, is_Dict, is_Attr, ti_obj, is_Make, is_Meth, mi_obj, is_LenO, ni_obj, ni_tup, ni_lst, is_EqO, ei_obj, ei_tup, ei_lst, ei_int, is_IxO, xi_obj, xi_tup, xi_lst, si_SetA, ui_ob, is_Lc2, is_fnF, is_fnI, bi_t, bi_f, oi_some, List.getElem?_cons_zero, List.getElem?_cons_succ, List.set_cons_zero, List.set_cons_succ, List.length_cons, List.length_nil, Nat.reduceAdd, Nat.reduceLeDiff, true_and, and_true, lk_self, tg_name, tg_tup, tg_cons, tg_nil, Option.bind_some, List.cons_append, List.nil_append, setE_nil, setE_cons, wipe_nil, wipe_cons, setS_nil, setS_cons, add_int, sub_int, neg_int, lt_int, le_int, gt_int, ge_int, not_bl, dEq_int, dNe_int, pow6, pow7, pow8, pow9, pow10, pow18, int1, len_lst, len_tup, tuple_lst, list_tup, seq_lst, seq_tup, seq_scr, enum_lst, enum_tup, min_int, max_int]
  refine needc_ok h.cams ?_
  refine needr_ok h ?_
  exact ⟨by decide, by decide, by decide, by decide, k⟩
theorem made_ok {p : Pl} {st : Sto} {R : Dat → Sto → Prop} {E : XP} (h : OkP p) (k : R (dSet p) st) : Is (F_l_made [dPlain p] st) R E := by
  unfold F_l_made b_l_made_den
  simp only [is_2, is_1, is_Isi, is_B, is_Cons, is_Nil, is_Get, is_Var, vi_sh, is_C, is_Tup, is_Lst, is_Ite, is_And, is_Or, is_Call, is_Seq', is_L, is_Sl, pi_none, pi_some, ex_int, is_Chain, is_Lc, is_few, is_slNil, is_slSh, is_slOw, si_nx, si_rt, si_Seq, si_Skip, si_Break, si_Cont, si_RetN, si_Asg, si_Ret, si_Do, si_If, si_For, si_AsgT, si_Put, si_Rel, si_App, ai_ow, si_AsgO, si_Par, is_Dict, is_Attr, ti_obj, is_Make, is_Meth, mi_obj, is_LenO, ni_obj, ni_tup, ni_lst, is_EqO, ei_obj, ei_tup, ei_lst, ei_int, is_IxO, xi_obj, xi_tup, xi_lst, si_SetA, ui_ob, is_Lc2, is_fnF, is_fnI, bi_t, bi_f, oi_some, List.getElem?_cons_zero, List.getElem?_cons_succ, List.set_cons_zero, List.set_cons_succ, List.length_cons, List.length_nil, Nat.reduceAdd, Nat.reduceLeDiff, true_and, and_true, lk_self, tg_name, tg_tup, tg_cons, tg_nil, Option.bind_some, List.cons_append, List.nil_append, setE_nil, setE_cons, wipe_nil, wipe_cons, setS_nil, setS_cons, add_int, sub_int, neg_int, lt_int, le_int, gt_int, ge_int, not_bl, dEq_int, dNe_int, pow6, pow7, pow8, pow9, pow10, pow18, int1, len_lst, len_tup, tuple_lst, list_tup, seq_lst, seq_tup, seq_scr, enum_lst, enum_tup, min_int, max_int, ev_1_1, ev_1_2, ev_2_2, ev_1_3, ev_2_3, ev_3_3, ev_1_4, ev_2_4, ev_3_4, ev_4_4, ev_1_5, ev_2_5, ev_3_5, ev_4_5, ev_5_5, ev_1_6, ev_2_6, ev_3_6, ev_4_6, ev_5_6, ev_6_6, ev_1_7, ev_2_7, ev_3_7, ev_4_7, ev_5_7, ev_6_7, ev_7_7, ev_1_8, ev_2_8, ev_3_8, ev_4_8, ev_5_8, ev_6_8, ev_7_8, ev_8_8, ev_1_9, ev_2_9, ev_3_9, ev_4_9, ev_5_9, ev_6_9, ev_7_9, ev_8_9, ev_1_10, ev_2_10, ev_3_10, ev_4_10, ev_5_10, ev_6_10, ev_7_10, ev_8_10, ev_1_11, ev_2_11, ev_3_11, ev_4_11, ev_5_11, ev_6_11, ev_7_11, ev_8_11, ev_1_12, ev_2_12, ev_3_12, ev_4_12, ev_5_12, ev_6_12, ev_7_12, ev_8_12, ev_1_13, ev_2_13, ev_3_13, ev_4_13, ev_5_13, ev_6_13, ev_7_13, ev_8_13, ev_1_14, ev_2_14, ev_3_14, ev_4_14, ev_5_14, ev_6_14, ev_7_14, ev_8_14, ev_1_15, ev_2_15, ev_3_15, ev_4_15, ev_5_15, ev_6_15, ev_7_15, ev_8_15, ev_1_16, ev_2_16, ev_3_16, ev_4_16, ev_5_16, ev_6_16, ev_7_16, ev_8_16, ev_1_17, ev_2_17, ev_3_17, ev_4_17, ev_5_17, ev_6_17, ev_7_17, ev_8_17, ev_1_18, ev_2_18, ev_3_18, ev_4_18, ev_5_18, ev_6_18, ev_7_18, ev_8_18, ev_1_19, ev_2_19, ev_3_19, ev_4_19, ev_5_19, ev_6_19, ev_7_19, ev_8_19, ev_1_20, ev_2_20, ev_3_20, ev_4_20, ev_5_20, ev_6_20, ev_7_20, ev_8_20, ev_1_21, ev_2_21, ev_3_21, ev_4_21, ev_5_21, ev_6_21, ev_7_21, ev_8_21, show dIx (dPlain p) (.int 0) = some (dCams p.cams) from rfl, show dIx (dPlain p) (.int 1) = some (dBounds p.bounds) from rfl, show dIx (dPlain p) (.int 2) = some (dTies p.ties) from rfl, show dIx (dPlain p) (.int 3) = some (.int p.gap) from rfl]
  exact make_ok h k
theorem mshots_ok {p : Pl} {st : Sto} {R : Dat → Sto → Prop} {E : XP} (h : OkP p) (k : R (.tup ((shotsOf p.cams).map dShot)) st) : Is (F_m_Setting_shots [dSet p] st) R E := by
  unfold F_m_Setting_shots b_m_Setting_shots_den
  simp only [is_2, is_1, is_Isi, is_B, is_Cons, is_Nil, is_Get, is_Var, vi_sh, is_C, is_Tup, is_Lst, is_Ite, is_And, is_Or, is_Call, is_Seq', is_L, is_Sl, pi_none, pi_some, ex_int, is_Chain, is_Lc, is_few, is_slNil, is_slSh, is_slOw, si_nx, si_rt, si_Seq, si_Skip, si_Break, si_Cont, si_RetN, si_Asg, si_Ret, si_Do, si_If, si_For, si_AsgT, si_Put, si_Rel, si_App, ai_ow, si_AsgO, si_Par, is_Dict, is_Attr, ti_obj, is_Make, is_Meth, mi_obj, is_LenO, ni_obj, ni_tup, ni_lst, is_EqO, ei_obj, ei_tup, ei_lst, ei_int, is_IxO, xi_obj, xi_tup, xi_lst, si_SetA, ui_ob, is_Lc2, is_fnF, is_fnI, bi_t, bi_f, oi_some, List.getElem?_cons_zero, List.getElem?_cons_succ, List.set_cons_zero, List.set_cons_succ, List.length_cons, List.length_nil, Nat.reduceAdd, Nat.reduceLeDiff, true_and, and_true, lk_self, tg_name, tg_tup, tg_cons, tg_nil, Option.bind_some, List.cons_append, List.nil_append, setE_nil, setE_cons, wipe_nil, wipe_cons, setS_nil, setS_cons, add_int, sub_int, neg_int, lt_int, le_int, gt_int, ge_int, not_bl, dEq_int, dNe_int, pow6, pow7, pow8, pow9, pow10, pow18, int1, len_lst, len_tup, tuple_lst, list_tup, seq_lst, seq_tup, seq_scr, enum_lst, enum_tup, min_int, max_int, ev_1_1, ev_1_2, ev_2_2, ev_1_3, ev_2_3, ev_3_3, ev_1_4, ev_2_4, ev_3_4, ev_4_4, ev_1_5, ev_2_5, ev_3_5, ev_4_5, ev_5_5, ev_1_6, ev_2_6, ev_3_6, ev_4_6, ev_5_6, ev_6_6, ev_1_7, ev_2_7, ev_3_7, ev_4_7, ev_5_7, ev_6_7, ev_7_7, ev_1_8, ev_2_8, ev_3_8, ev_4_8, ev_5_8, ev_6_8, ev_7_8, ev_8_8, ev_1_9, ev_2_9, ev_3_9, ev_4_9, ev_5_9, ev_6_9, ev_7_9, ev_8_9, ev_1_10, ev_2_10, ev_3_10, ev_4_10, ev_5_10, ev_6_10, ev_7_10, ev_8_10, ev_1_11, ev_2_11, ev_3_11, ev_4_11, ev_5_11, ev_6_11, ev_7_11, ev_8_11, ev_1_12, ev_2_12, ev_3_12, ev_4_12, ev_5_12, ev_6_12, ev_7_12, ev_8_12, ev_1_13, ev_2_13, ev_3_13, ev_4_13, ev_5_13, ev_6_13, ev_7_13, ev_8_13, ev_1_14, ev_2_14, ev_3_14, ev_4_14, ev_5_14, ev_6_14, ev_7_14, ev_8_14, ev_1_15, ev_2_15, ev_3_15, ev_4_15, ev_5_15, ev_6_15, ev_7_15, ev_8_15, ev_1_16, ev_2_16, ev_3_16, ev_4_16, ev_5_16, ev_6_16, ev_7_16, ev_8_16, ev_1_17, ev_2_17, ev_3_17, ev_4_17, ev_5_17, ev_6_17, ev_7_17, ev_8_17, ev_1_18, ev_2_18, ev_3_18, ev_4_18, ev_5_18, ev_6_18, ev_7_18, ev_8_18, ev_1_19, ev_2_19, ev_3_19, ev_4_19, ev_5_19, ev_6_19, ev_7_19, ev_8_19, ev_1_20, ev_2_20, ev_3_20, ev_4_20, ev_5_20, ev_6_20, ev_7_20, ev_8_20, ev_1_21, ev_2_21, ev_3_21, ev_4_21, ev_5_21, ev_6_21, ev_7_21, ev_8_21]
  unfold dCams
  simp only [is_2, is_1, is_Isi, is_B, is_Cons, is_Nil, is_Get, is_Var, vi_sh, is_C, is_Tup, is_Lst, is_Ite, is_And, is_Or, is_Call, is_Seq', is_L, is_Sl, pi_none, pi_some, ex_int, is_Chain, is_Lc, is_few, is_slNil, is_slSh, is_slOw, si_nx, si_rt, si_Seq, si_Skip, si_Break, si_Cont, si_RetN, si_Asg, si_Ret, si_Do, si_If, si_For, si_AsgT, si_Put, si_Rel, si_App, ai_ow, si_AsgO, si_Par, is_Dict, is_Attr, ti_obj, is_Make, is_Meth, mi_obj, is_LenO, ni_obj, ni_tup, ni_lst, is_EqO, ei_obj, ei_tup, ei_lst, ei_int, is_IxO, xi_obj, xi_tup, xi_lst, si_SetA, ui_ob, is_Lc2, is_fnF, is_fnI, bi_t, bi_f, oi_some, List.getElem?_cons_zero, List.getElem?_cons_succ, List.set_cons_zero, List.set_cons_succ, List.length_cons, List.length_nil, Nat.reduceAdd, Nat.reduceLeDiff, true_and, and_true, lk_self, tg_name, tg_tup, tg_cons, tg_nil, Option.bind_some, List.cons_append, List.nil_append, setE_nil, setE_cons, wipe_nil, wipe_cons, setS_nil, setS_cons, add_int, sub_int, neg_int, lt_int, le_int, gt_int, ge_int, not_bl, dEq_int, dNe_int, pow6, pow7, pow8, pow9, pow10, pow18, int1, len_lst, len_tup, tuple_lst, list_tup, seq_lst, seq_tup, seq_scr, enum_lst, enum_tup, min_int, max_int]
  rw [enumD_map]
  refine lc2_mapT (encB := fun (j : Nat) => Dat.int (j : Int)) (fun p => List.range p.1.length) (fun p j => dShot (p.2, j)) (fun x hx => ?_) ?_
  · have hm : x.1 ∈ p.cams := List.fst_mem_of_mem_zipIdx hx
    have ht := h.cams.tot
    have hl : x.1.length ≤ 12 := by
      refine Nat.le_trans ?_ ht
      exact le_sum (List.mem_map.mpr ⟨x.1, hm, rfl⟩)
    simp only [is_2, is_1, is_Isi, is_B, is_Cons, is_Nil, is_Get, is_Var, vi_sh, is_C, is_Tup, is_Lst, is_Ite, is_And, is_Or, is_Call, is_Seq', is_L, is_Sl, pi_none, pi_some, ex_int, is_Chain, is_Lc, is_few, is_slNil, is_slSh, is_slOw, si_nx, si_rt, si_Seq, si_Skip, si_Break, si_Cont, si_RetN, si_Asg, si_Ret, si_Do, si_If, si_For, si_AsgT, si_Put, si_Rel, si_App, ai_ow, si_AsgO, si_Par, is_Dict, is_Attr, ti_obj, is_Make, is_Meth, mi_obj, is_LenO, ni_obj, ni_tup, ni_lst, is_EqO, ei_obj, ei_tup, ei_lst, ei_int, is_IxO, xi_obj, xi_tup, xi_lst, si_SetA, ui_ob, is_Lc2, is_fnF, is_fnI, bi_t, bi_f, oi_some, List.getElem?_cons_zero, List.getElem?_cons_succ, List.set_cons_zero, List.set_cons_succ, List.length_cons, List.length_nil, Nat.reduceAdd, Nat.reduceLeDiff, true_and, and_true, lk_self, tg_name, tg_tup, tg_cons, tg_nil, Option.bind_some, List.cons_append, List.nil_append, setE_nil, setE_cons, wipe_nil, wipe_cons, setS_nil, setS_cons, add_int, sub_int, neg_int, lt_int, le_int, gt_int, ge_int, not_bl, dEq_int, dNe_int, pow6, pow7, pow8, pow9, pow10, pow18, int1, len_lst, len_tup, tuple_lst, list_tup, seq_lst, seq_tup, seq_scr, enum_lst, enum_tup, min_int, max_int, List.length_map]
    rw [range_nat (by omega), oi_some, rangeD_map]
    refine ⟨rfl, fun y hy => ?_⟩
    simp only [is_2, is_1, is_Isi, is_B, is_Cons, is_Nil, is_Get, is_Var, vi_sh, is_C, is_Tup, is_Lst, is_Ite, is_And, is_Or, is_Call, is_Seq', is_L, is_Sl, pi_none, pi_some, ex_int, is_Chain, is_Lc, is_few, is_slNil, is_slSh, is_slOw, si_nx, si_rt, si_Seq, si_Skip, si_Break, si_Cont, si_RetN, si_Asg, si_Ret, si_Do, si_If, si_For, si_AsgT, si_Put, si_Rel, si_App, ai_ow, si_AsgO, si_Par, is_Dict, is_Attr, ti_obj, is_Make, is_Meth, mi_obj, is_LenO, ni_obj, ni_tup, ni_lst, is_EqO, ei_obj, ei_tup, ei_lst, ei_int, is_IxO, xi_obj, xi_tup, xi_lst, si_SetA, ui_ob, is_Lc2, is_fnF, is_fnI, bi_t, bi_f, oi_some, List.getElem?_cons_zero, List.getElem?_cons_succ, List.set_cons_zero, List.set_cons_succ, List.length_cons, List.length_nil, Nat.reduceAdd, Nat.reduceLeDiff, true_and, and_true, lk_self, tg_name, tg_tup, tg_cons, tg_nil, Option.bind_some, List.cons_append, List.nil_append, setE_nil, setE_cons, wipe_nil, wipe_cons, setS_nil, setS_cons, add_int, sub_int, neg_int, lt_int, le_int, gt_int, ge_int, not_bl, dEq_int, dNe_int, pow6, pow7, pow8, pow9, pow10, pow18, int1, len_lst, len_tup, tuple_lst, list_tup, seq_lst, seq_tup, seq_scr, enum_lst, enum_tup, min_int, max_int]
  · have e : (p.cams.zipIdx.flatMap fun x => (List.range x.1.length).map fun j => dShot (x.2, j)) = (shotsOf p.cams).map dShot := by
      unfold shotsOf
      rw [List.map_flatMap]
      simp
      rfl
    rw [e, List.length_map, shotsOf_len]
    have ht := h.cams.tot
    exact ⟨by omega, k⟩
theorem mlen_ok {p : Pl} {st : Sto} {R : Dat → Sto → Prop} {E : XP} (h : OkP p) (k : R (.int (total p.cams : Int)) st) : Is (F_m_Setting_len [dSet p] st) R E := by
  unfold F_m_Setting_len b_m_Setting_len_den
  simp only [is_2, is_1, is_Isi, is_B, is_Cons, is_Nil, is_Get, is_Var, vi_sh, is_C, is_Tup, is_Lst, is_Ite, is_And, is_Or, is_Call, is_Seq', is_L, is_Sl, pi_none, pi_some, ex_int, is_Chain, is_Lc, is_few, is_slNil, is_slSh, is_slOw, si_nx, si_rt, si_Seq, si_Skip, si_Break, si_Cont, si_RetN, si_Asg, si_Ret, si_Do, si_If, si_For, si_AsgT, si_Put, si_Rel, si_App, ai_ow, si_AsgO, si_Par, is_Dict, is_Attr, ti_obj, is_Make, is_Meth, mi_obj, is_LenO, ni_obj, ni_tup, ni_lst, is_EqO, ei_obj, ei_tup, ei_lst, ei_int, is_IxO, xi_obj, xi_tup, xi_lst, si_SetA, ui_ob, is_Lc2, is_fnF, is_fnI, bi_t, bi_f, oi_some, List.getElem?_cons_zero, List.getElem?_cons_succ, List.set_cons_zero, List.set_cons_succ, List.length_cons, List.length_nil, Nat.reduceAdd, Nat.reduceLeDiff, true_and, and_true, lk_self, tg_name, tg_tup, tg_cons, tg_nil, Option.bind_some, List.cons_append, List.nil_append, setE_nil, setE_cons, wipe_nil, wipe_cons, setS_nil, setS_cons, add_int, sub_int, neg_int, lt_int, le_int, gt_int, ge_int, not_bl, dEq_int, dNe_int, pow6, pow7, pow8, pow9, pow10, pow18, int1, len_lst, len_tup, tuple_lst, list_tup, seq_lst, seq_tup, seq_scr, enum_lst, enum_tup, min_int, max_int, ev_1_1, ev_1_2, ev_2_2, ev_1_3, ev_2_3, ev_3_3, ev_1_4, ev_2_4, ev_3_4, ev_4_4, ev_1_5, ev_2_5, ev_3_5, ev_4_5, ev_5_5, ev_1_6, ev_2_6, ev_3_6, ev_4_6, ev_5_6, ev_6_6, ev_1_7, ev_2_7, ev_3_7, ev_4_7, ev_5_7, ev_6_7, ev_7_7, ev_1_8, ev_2_8, ev_3_8, ev_4_8, ev_5_8, ev_6_8, ev_7_8, ev_8_8, ev_1_9, ev_2_9, ev_3_9, ev_4_9, ev_5_9, ev_6_9, ev_7_9, ev_8_9, ev_1_10, ev_2_10, ev_3_10, ev_4_10, ev_5_10, ev_6_10, ev_7_10, ev_8_10, ev_1_11, ev_2_11, ev_3_11, ev_4_11, ev_5_11, ev_6_11, ev_7_11, ev_8_11, ev_1_12, ev_2_12, ev_3_12, ev_4_12, ev_5_12, ev_6_12, ev_7_12, ev_8_12, ev_1_13, ev_2_13, ev_3_13, ev_4_13, ev_5_13, ev_6_13, ev_7_13, ev_8_13, ev_1_14, ev_2_14, ev_3_14, ev_4_14, ev_5_14, ev_6_14, ev_7_14, ev_8_14, ev_1_15, ev_2_15, ev_3_15, ev_4_15, ev_5_15, ev_6_15, ev_7_15, ev_8_15, ev_1_16, ev_2_16, ev_3_16, ev_4_16, ev_5_16, ev_6_16, ev_7_16, ev_8_16, ev_1_17, ev_2_17, ev_3_17, ev_4_17, ev_5_17, ev_6_17, ev_7_17, ev_8_17, ev_1_18, ev_2_18, ev_3_18, ev_4_18, ev_5_18, ev_6_18, ev_7_18, ev_8_18, ev_1_19, ev_2_19, ev_3_19, ev_4_19, ev_5_19, ev_6_19, ev_7_19, ev_8_19, ev_1_20, ev_2_20, ev_3_20, ev_4_20, ev_5_20, ev_6_20, ev_7_20, ev_8_20, ev_1_21, ev_2_21, ev_3_21, ev_4_21, ev_5_21, ev_6_21, ev_7_21, ev_8_21]
  refine mshots_ok h ?_
  simp only [is_2, is_1, is_Isi, is_B, is_Cons, is_Nil, is_Get, is_Var, vi_sh, is_C, is_Tup, is_Lst, is_Ite, is_And, is_Or, is_Call, is_Seq', is_L, is_Sl, pi_none, pi_some, ex_int, is_Chain, is_Lc, is_few, is_slNil, is_slSh, is_slOw, si_nx, si_rt, si_Seq, si_Skip, si_Break, si_Cont, si_RetN, si_Asg, si_Ret, si_Do, si_If, si_For, si_AsgT, si_Put, si_Rel, si_App, ai_ow, si_AsgO, si_Par, is_Dict, is_Attr, ti_obj, is_Make, is_Meth, mi_obj, is_LenO, ni_obj, ni_tup, ni_lst, is_EqO, ei_obj, ei_tup, ei_lst, ei_int, is_IxO, xi_obj, xi_tup, xi_lst, si_SetA, ui_ob, is_Lc2, is_fnF, is_fnI, bi_t, bi_f, oi_some, List.getElem?_cons_zero, List.getElem?_cons_succ, List.set_cons_zero, List.set_cons_succ, List.length_cons, List.length_nil, Nat.reduceAdd, Nat.reduceLeDiff, true_and, and_true, lk_self, tg_name, tg_tup, tg_cons, tg_nil, Option.bind_some, List.cons_append, List.nil_append, setE_nil, setE_cons, wipe_nil, wipe_cons, setS_nil, setS_cons, add_int, sub_int, neg_int, lt_int, le_int, gt_int, ge_int, not_bl, dEq_int, dNe_int, pow6, pow7, pow8, pow9, pow10, pow18, int1, len_lst, len_tup, tuple_lst, list_tup, seq_lst, seq_tup, seq_scr, enum_lst, enum_tup, min_int, max_int, List.length_map, shotsOf_len]
  exact k
theorem mget_ok {p : Pl} {s : Nat × Nat} {st : Sto} {R : Dat → Sto → Prop} {E : XP} (h : IsShot p.cams s) (k : R (.int ((p.cams.getD s.1 []).getD s.2 0)) st) : Is (F_m_Setting_getitem [dSet p, dShot s] st) R E := by
  unfold F_m_Setting_getitem b_m_Setting_getitem_den
  have h' := h
  obtain ⟨ns, h1, h2⟩ := h'
  have h3 := (List.getElem?_eq_some_iff.mp h1).1
  simp only [is_2, is_1, is_Isi, is_B, is_Cons, is_Nil, is_Get, is_Var, vi_sh, is_C, is_Tup, is_Lst, is_Ite, is_And, is_Or, is_Call, is_Seq', is_L, is_Sl, pi_none, pi_some, ex_int, is_Chain, is_Lc, is_few, is_slNil, is_slSh, is_slOw, si_nx, si_rt, si_Seq, si_Skip, si_Break, si_Cont, si_RetN, si_Asg, si_Ret, si_Do, si_If, si_For, si_AsgT, si_Put, si_Rel, si_App, ai_ow, si_AsgO, si_Par, is_Dict, is_Attr, ti_obj, is_Make, is_Meth, mi_obj, is_LenO, ni_obj, ni_tup, ni_lst, is_EqO, ei_obj, ei_tup, ei_lst, ei_int, is_IxO, xi_obj, xi_tup, xi_lst, si_SetA, ui_ob, is_Lc2, is_fnF, is_fnI, bi_t, bi_f, oi_some, List.getElem?_cons_zero, List.getElem?_cons_succ, List.set_cons_zero, List.set_cons_succ, List.length_cons, List.length_nil, Nat.reduceAdd, Nat.reduceLeDiff, true_and, and_true, lk_self, tg_name, tg_tup, tg_cons, tg_nil, Option.bind_some, List.cons_append, List.nil_append, setE_nil, setE_cons, wipe_nil, wipe_cons, setS_nil, setS_cons, add_int, sub_int, neg_int, lt_int, le_int, gt_int, ge_int, not_bl, dEq_int, dNe_int, pow6, pow7, pow8, pow9, pow10, pow18, int1, len_lst, len_tup, tuple_lst, list_tup, seq_lst, seq_tup, seq_scr, enum_lst, enum_tup, min_int, max_int, ev_1_1, ev_1_2, ev_2_2, ev_1_3, ev_2_3, ev_3_3, ev_1_4, ev_2_4, ev_3_4, ev_4_4, ev_1_5, ev_2_5, ev_3_5, ev_4_5, ev_5_5, ev_1_6, ev_2_6, ev_3_6, ev_4_6, ev_5_6, ev_6_6, ev_1_7, ev_2_7, ev_3_7, ev_4_7, ev_5_7, ev_6_7, ev_7_7, ev_1_8, ev_2_8, ev_3_8, ev_4_8, ev_5_8, ev_6_8, ev_7_8, ev_8_8, ev_1_9, ev_2_9, ev_3_9, ev_4_9, ev_5_9, ev_6_9, ev_7_9, ev_8_9, ev_1_10, ev_2_10, ev_3_10, ev_4_10, ev_5_10, ev_6_10, ev_7_10, ev_8_10, ev_1_11, ev_2_11, ev_3_11, ev_4_11, ev_5_11, ev_6_11, ev_7_11, ev_8_11, ev_1_12, ev_2_12, ev_3_12, ev_4_12, ev_5_12, ev_6_12, ev_7_12, ev_8_12, ev_1_13, ev_2_13, ev_3_13, ev_4_13, ev_5_13, ev_6_13, ev_7_13, ev_8_13, ev_1_14, ev_2_14, ev_3_14, ev_4_14, ev_5_14, ev_6_14, ev_7_14, ev_8_14, ev_1_15, ev_2_15, ev_3_15, ev_4_15, ev_5_15, ev_6_15, ev_7_15, ev_8_15, ev_1_16, ev_2_16, ev_3_16, ev_4_16, ev_5_16, ev_6_16, ev_7_16, ev_8_16, ev_1_17, ev_2_17, ev_3_17, ev_4_17, ev_5_17, ev_6_17, ev_7_17, ev_8_17, ev_1_18, ev_2_18, ev_3_18, ev_4_18, ev_5_18, ev_6_18, ev_7_18, ev_8_18, ev_1_19, ev_2_19, ev_3_19, ev_4_19, ev_5_19, ev_6_19, ev_7_19, ev_8_19, ev_1_20, ev_2_20, ev_3_20, ev_4_20, ev_5_20, ev_6_20, ev_7_20, ev_8_20, ev_1_21, ev_2_21, ev_3_21, ev_4_21, ev_5_21, ev_6_21, ev_7_21, ev_8_21]
  simp only [is_2, is_1, is_Isi, is_B, is_Cons, is_Nil, is_Get, is_Var, vi_sh, is_C, is_Tup, is_Lst, is_Ite, is_And, is_Or, is_Call, is_Seq', is_L, is_Sl, pi_none, pi_some, ex_int, is_Chain, is_Lc, is_few, is_slNil, is_slSh, is_slOw, si_nx, si_rt, si_Seq, si_Skip, si_Break, si_Cont, si_RetN, si_Asg, si_Ret, si_Do, si_If, si_For, si_AsgT, si_Put, si_Rel, si_App, ai_ow, si_AsgO, si_Par, is_Dict, is_Attr, ti_obj, is_Make, is_Meth, mi_obj, is_LenO, ni_obj, ni_tup, ni_lst, is_EqO, ei_obj, ei_tup, ei_lst, ei_int, is_IxO, xi_obj, xi_tup, xi_lst, si_SetA, ui_ob, is_Lc2, is_fnF, is_fnI, bi_t, bi_f, oi_some, List.getElem?_cons_zero, List.getElem?_cons_succ, List.set_cons_zero, List.set_cons_succ, List.length_cons, List.length_nil, Nat.reduceAdd, Nat.reduceLeDiff, true_and, and_true, lk_self, tg_name, tg_tup, tg_cons, tg_nil, Option.bind_some, List.cons_append, List.nil_append, setE_nil, setE_cons, wipe_nil, wipe_cons, setS_nil, setS_cons, add_int, sub_int, neg_int, lt_int, le_int, gt_int, ge_int, not_bl, dEq_int, dNe_int, pow6, pow7, pow8, pow9, pow10, pow18, int1, len_lst, len_tup, tuple_lst, list_tup, seq_lst, seq_tup, seq_scr, enum_lst, enum_tup, min_int, max_int, shot_spec (wt_shot s), shotD_of h, Bool.not_true, ixt2_0, ixt2_1]
  rw [ix_cams (by omega) (by omega), Int.toNat_natCast, List.getD, h1]
  simp only [is_2, is_1, is_Isi, is_B, is_Cons, is_Nil, is_Get, is_Var, vi_sh, is_C, is_Tup, is_Lst, is_Ite, is_And, is_Or, is_Call, is_Seq', is_L, is_Sl, pi_none, pi_some, ex_int, is_Chain, is_Lc, is_few, is_slNil, is_slSh, is_slOw, si_nx, si_rt, si_Seq, si_Skip, si_Break, si_Cont, si_RetN, si_Asg, si_Ret, si_Do, si_If, si_For, si_AsgT, si_Put, si_Rel, si_App, ai_ow, si_AsgO, si_Par, is_Dict, is_Attr, ti_obj, is_Make, is_Meth, mi_obj, is_LenO, ni_obj, ni_tup, ni_lst, is_EqO, ei_obj, ei_tup, ei_lst, ei_int, is_IxO, xi_obj, xi_tup, xi_lst, si_SetA, ui_ob, is_Lc2, is_fnF, is_fnI, bi_t, bi_f, oi_some, List.getElem?_cons_zero, List.getElem?_cons_succ, List.set_cons_zero, List.set_cons_succ, List.length_cons, List.length_nil, Nat.reduceAdd, Nat.reduceLeDiff, true_and, and_true, lk_self, tg_name, tg_tup, tg_cons, tg_nil, Option.bind_some, List.cons_append, List.nil_append, setE_nil, setE_cons, wipe_nil, wipe_cons, setS_nil, setS_cons, add_int, sub_int, neg_int, lt_int, le_int, gt_int, ge_int, not_bl, dEq_int, dNe_int, pow6, pow7, pow8, pow9, pow10, pow18, int1, len_lst, len_tup, tuple_lst, list_tup, seq_lst, seq_tup, seq_scr, enum_lst, enum_tup, min_int, max_int, Option.getD_some]
  rw [ix_t (by omega) (by simp; omega), Int.toNat_natCast, List.getElem?_map, List.getElem?_eq_getElem h2]
  simp only [Option.map_some, is_2, is_1, is_Isi, is_B, is_Cons, is_Nil, is_Get, is_Var, vi_sh, is_C, is_Tup, is_Lst, is_Ite, is_And, is_Or, is_Call, is_Seq', is_L, is_Sl, pi_none, pi_some, ex_int, is_Chain, is_Lc, is_few, is_slNil, is_slSh, is_slOw, si_nx, si_rt, si_Seq, si_Skip, si_Break, si_Cont, si_RetN, si_Asg, si_Ret, si_Do, si_If, si_For, si_AsgT, si_Put, si_Rel, si_App, ai_ow, si_AsgO, si_Par, is_Dict, is_Attr, ti_obj, is_Make, is_Meth, mi_obj, is_LenO, ni_obj, ni_tup, ni_lst, is_EqO, ei_obj, ei_tup, ei_lst, ei_int, is_IxO, xi_obj, xi_tup, xi_lst, si_SetA, ui_ob, is_Lc2, is_fnF, is_fnI, bi_t, bi_f, oi_some, List.getElem?_cons_zero, List.getElem?_cons_succ, List.set_cons_zero, List.set_cons_succ, List.length_cons, List.length_nil, Nat.reduceAdd, Nat.reduceLeDiff, true_and, and_true, lk_self, tg_name, tg_tup, tg_cons, tg_nil, Option.bind_some, List.cons_append, List.nil_append, setE_nil, setE_cons, wipe_nil, wipe_cons, setS_nil, setS_cons, add_int, sub_int, neg_int, lt_int, le_int, gt_int, ge_int, not_bl, dEq_int, dNe_int, pow6, pow7, pow8, pow9, pow10, pow18, int1, len_lst, len_tup, tuple_lst, list_tup, seq_lst, seq_tup, seq_scr, enum_lst, enum_tup, min_int, max_int]
  have e : (p.cams.getD s.1 []).getD s.2 0 = ns[s.2] := by
    simp [List.getD, h1, List.getElem?_eq_getElem h2]
  rw [e] at k
  exact k
end LW
set_option Elab.async false
set_option linter.all false
set_option maxRecDepth 100000
set_option maxHeartbeats 2000000
namespace LW
open PySem GI GP
theorem map_inj {α : Type} {f : α → Dat} (h : ∀ x y, f x = f y → x = y) {xs ys : List α} (e : xs.map f = ys.map f) : xs = ys := (List.map_inj_right h).mp e
theorem int_inj (x y : Int) (h : Dat.int x = .int y) : x = y := by cases h; rfl
theorem stamps_inj (x y : List Int) (h : dStamps x = dStamps y) : x = y := map_inj int_inj (by injection h)
theorem cams_inj {x y : Cams} (h : dCams x = dCams y) : x = y := map_inj stamps_inj (by unfold dCams at h; injection h)
theorem pair_inj (x y : Int × Int) (h : dPair x = dPair y) : x = y := by
  injection h with h
  injection h with h1 h
  injection h with h2 h
  exact Prod.ext (int_inj _ _ h1) (int_inj _ _ h2)
theorem shot_inj (x y : Nat × Nat) (h : dShot x = dShot y) : x = y := by
  injection h with h
  injection h with h1 h
  injection h with h2 h
  have h1 := int_inj _ _ h1
  have h2 := int_inj _ _ h2
  exact Prod.ext (by omega) (by omega)
theorem tie_inj (x y : Tie) (h : dTie x = dTie y) : x = y := by
  injection h with h
  injection h with h1 h
  injection h with h2 h
  injection h with h3 h
  injection h with h4 h
  have k1 := shot_inj _ _ h1
  have k2 := shot_inj _ _ h2
  have k3 := int_inj _ _ h3
  have k4 := int_inj _ _ h4
  clear h1 h2 h3 h4 h
  cases x; cases y
  simp only at k1 k2 k3 k4
  subst k1 k2 k3 k4
  rfl
theorem bounds_inj {x y : List (Int × Int)} (h : dBounds x = dBounds y) : x = y := map_inj pair_inj (by injection h)
theorem ties_inj {x y : List Tie} (h : dTies x = dTies y) : x = y := map_inj tie_inj (by injection h)
theorem pn_stamps {n : Nat} (ns : List Int) : Pn (n + 1) (dStamps ns) := .tup pn_ints
theorem pn_cams {n : Nat} (cs : Cams) : Pn (n + 2) (dCams cs) := .tup fun d hd => by
  obtain ⟨ns, _, rfl⟩ := List.mem_map.mp hd
  exact pn_stamps ns
theorem pn_pair {n : Nat} (s : Int × Int) : Pn (n + 1) (dPair s) := .tup fun d hd => by
  rcases List.mem_cons.mp hd with e | e
  · rw [e]; exact .int _ _
  · rw [List.mem_singleton.mp e]; exact .int _ _
theorem pn_bounds {n : Nat} (bs : List (Int × Int)) : Pn (n + 2) (dBounds bs) := .tup fun d hd => by
  obtain ⟨b, _, rfl⟩ := List.mem_map.mp hd
  exact pn_pair b
theorem pn_tie {n : Nat} (t : Tie) : Pn (n + 2) (dTie t) := .tup fun d hd => by
  simp only [List.mem_cons, List.not_mem_nil, or_false] at hd
  rcases hd with e | e | e | e <;> rw [e]
  · exact pn_shot _
  · exact pn_shot _
  · exact .int _ _
  · exact .int _ _
theorem pn_ties {n : Nat} (bs : List Tie) : Pn (n + 3) (dTies bs) := .tup fun d hd => by
  obtain ⟨b, _, rfl⟩ := List.mem_map.mp hd
  exact pn_tie b
theorem dNe_cams (x y : Cams) : dNe (dCams x) (dCams y) = some (.bl (decide (x ≠ y))) := by
  rw [dNe_pn (pn_cams (n := 0) x) (pn_cams (n := 0) y) (by decide) (by decide)]
  congr 2
  exact decide_eq_decide.mpr ⟨fun h e => h (by rw [e]), fun h e => h (cams_inj e)⟩
theorem dNe_bounds (x y : List (Int × Int)) : dNe (dBounds x) (dBounds y) = some (.bl (decide (x ≠ y))) := by
  rw [dNe_pn (pn_bounds (n := 0) x) (pn_bounds (n := 0) y) (by decide) (by decide)]
  congr 2
  exact decide_eq_decide.mpr ⟨fun h e => h (by rw [e]), fun h e => h (bounds_inj e)⟩
theorem dNe_pair (x y : Int × Int) : dNe (dPair x) (dPair y) = some (.bl (decide (x ≠ y))) := by
  rw [dNe_pn (pn_pair (n := 0) x) (pn_pair (n := 0) y) (by decide) (by decide)]
  congr 2
  exact decide_eq_decide.mpr ⟨fun h e => h (by rw [e]), fun h e => h (pair_inj _ _ e)⟩
theorem dNe_ties (x y : List Tie) : dNe (dTies x) (dTies y) = some (.bl (decide (x ≠ y))) := by
  rw [dNe_pn (pn_ties (n := 0) x) (pn_ties (n := 0) y) (by decide) (by decide)]
  congr 2
  exact decide_eq_decide.mpr ⟨fun h e => h (by rw [e]), fun h e => h (ties_inj e)⟩
theorem dEq_ties (x y : List Tie) : dEq (dTies x) (dTies y) = some (.bl (decide (x = y))) := by
  rw [dEq_pn (pn_ties (n := 0) x) (pn_ties (n := 0) y) (by decide) (by decide)]
  congr 2
  exact decide_eq_decide.mpr ⟨fun h => ties_inj h, fun h => by rw [h]⟩
/-- the same setting -/
def same (p q : Pl) : Bool := decide (p.cams = q.cams) && decide (p.bounds = q.bounds) && decide (p.ties = q.ties) && decide (p.gap = q.gap)
theorem same_self (p : Pl) : same p p = true := by simp [same]
theorem meq_ok {p q : Pl} {st : Sto} {R : Dat → Sto → Prop} {E : XP} : Is (F_m_Setting_eq [dSet p, dSet q] st) R E ↔ R (.bl (same p q)) st := by
  unfold F_m_Setting_eq b_m_Setting_eq_den
  simp only [is_2, is_1, is_Isi, is_B, is_Cons, is_Nil, is_Get, is_Var, vi_sh, is_C, is_Tup, is_Lst, is_Ite, is_And, is_Or, is_Call, is_Seq', is_L, is_Sl, pi_none, pi_some, ex_int, is_Chain, is_Lc, is_few, is_slNil, is_slSh, is_slOw, si_nx, si_rt, si_Seq, si_Skip, si_Break, si_Cont, si_RetN, si_Asg, si_Ret, si_Do, si_If, si_For, si_AsgT, si_Put, si_Rel, si_App, ai_ow, si_AsgO, si_Par, is_Dict, is_Attr, ti_obj, is_Make, is_Meth, mi_obj, is_LenO, ni_obj, ni_tup, ni_lst, is_EqO, ei_obj, ei_tup, ei_lst, ei_int, is_IxO, xi_obj, xi_tup, xi_lst, si_SetA, ui_ob, is_Lc2, is_fnF, is_fnI, bi_t, bi_f, oi_some, List.getElem?_cons_zero, List.getElem?_cons_succ, List.set_cons_zero, List.set_cons_succ, List.length_cons, List.length_nil, Nat.reduceAdd, Nat.reduceLeDiff, true_and, and_true, lk_self, tg_name, tg_tup, tg_cons, tg_nil, Option.bind_some, List.cons_append, List.nil_append, setE_nil, setE_cons, wipe_nil, wipe_cons, setS_nil, setS_cons, add_int, sub_int, neg_int, lt_int, le_int, gt_int, ge_int, not_bl, dEq_int, dNe_int, pow6, pow7, pow8, pow9, pow10, pow18, int1, len_lst, len_tup, tuple_lst, list_tup, seq_lst, seq_tup, seq_scr, enum_lst, enum_tup, min_int, max_int, ev_1_1, ev_1_2, ev_2_2, ev_1_3, ev_2_3, ev_3_3, ev_1_4, ev_2_4, ev_3_4, ev_4_4, ev_1_5, ev_2_5, ev_3_5, ev_4_5, ev_5_5, ev_1_6, ev_2_6, ev_3_6, ev_4_6, ev_5_6, ev_6_6, ev_1_7, ev_2_7, ev_3_7, ev_4_7, ev_5_7, ev_6_7, ev_7_7, ev_1_8, ev_2_8, ev_3_8, ev_4_8, ev_5_8, ev_6_8, ev_7_8, ev_8_8, ev_1_9, ev_2_9, ev_3_9, ev_4_9, ev_5_9, ev_6_9, ev_7_9, ev_8_9, ev_1_10, ev_2_10, ev_3_10, ev_4_10, ev_5_10, ev_6_10, ev_7_10, ev_8_10, ev_1_11, ev_2_11, ev_3_11, ev_4_11, ev_5_11, ev_6_11, ev_7_11, ev_8_11, ev_1_12, ev_2_12, ev_3_12, ev_4_12, ev_5_12, ev_6_12, ev_7_12, ev_8_12, ev_1_13, ev_2_13, ev_3_13, ev_4_13, ev_5_13, ev_6_13, ev_7_13, ev_8_13, ev_1_14, ev_2_14, ev_3_14, ev_4_14, ev_5_14, ev_6_14, ev_7_14, ev_8_14, ev_1_15, ev_2_15, ev_3_15, ev_4_15, ev_5_15, ev_6_15, ev_7_15, ev_8_15, ev_1_16, ev_2_16, ev_3_16, ev_4_16, ev_5_16, ev_6_16, ev_7_16, ev_8_16, ev_1_17, ev_2_17, ev_3_17, ev_4_17, ev_5_17, ev_6_17, ev_7_17, ev_8_17, ev_1_18, ev_2_18, ev_3_18, ev_4_18, ev_5_18, ev_6_18, ev_7_18, ev_8_18, ev_1_19, ev_2_19, ev_3_19, ev_4_19, ev_5_19, ev_6_19, ev_7_19, ev_8_19, ev_1_20, ev_2_20, ev_3_20, ev_4_20, ev_5_20, ev_6_20, ev_7_20, ev_8_20, ev_1_21, ev_2_21, ev_3_21, ev_4_21, ev_5_21, ev_6_21, ev_7_21, ev_8_21, dIsiC, Option.map_some, Bool.not_true, dNe_cams, dNe_bounds, dEq_ties]
  unfold same
  by_cases h1 : p.cams = q.cams
  · by_cases h2 : p.bounds = q.bounds
    · by_cases h3 : p.ties = q.ties
      · simp [h1, h2, h3, bI]
      · simp [h1, h2, h3, bI]
    · simp [h1, h2, bI]
  · simp [h1, bI]
theorem meq_tup {p : Pl} {ds : List Dat} {st : Sto} {R : Dat → Sto → Prop} {E : XP} : Is (F_m_Setting_eq [dSet p, .tup ds] st) R E ↔ R (.bl false) st := by
  unfold F_m_Setting_eq b_m_Setting_eq_den
  simp only [is_2, is_1, is_Isi, is_B, is_Cons, is_Nil, is_Get, is_Var, vi_sh, is_C, is_Tup, is_Lst, is_Ite, is_And, is_Or, is_Call, is_Seq', is_L, is_Sl, pi_none, pi_some, ex_int, is_Chain, is_Lc, is_few, is_slNil, is_slSh, is_slOw, si_nx, si_rt, si_Seq, si_Skip, si_Break, si_Cont, si_RetN, si_Asg, si_Ret, si_Do, si_If, si_For, si_AsgT, si_Put, si_Rel, si_App, ai_ow, si_AsgO, si_Par, is_Dict, is_Attr, ti_obj, is_Make, is_Meth, mi_obj, is_LenO, ni_obj, ni_tup, ni_lst, is_EqO, ei_obj, ei_tup, ei_lst, ei_int, is_IxO, xi_obj, xi_tup, xi_lst, si_SetA, ui_ob, is_Lc2, is_fnF, is_fnI, bi_t, bi_f, oi_some, List.getElem?_cons_zero, List.getElem?_cons_succ, List.set_cons_zero, List.set_cons_succ, List.length_cons, List.length_nil, Nat.reduceAdd, Nat.reduceLeDiff, true_and, and_true, lk_self, tg_name, tg_tup, tg_cons, tg_nil, Option.bind_some, List.cons_append, List.nil_append, setE_nil, setE_cons, wipe_nil, wipe_cons, setS_nil, setS_cons, add_int, sub_int, neg_int, lt_int, le_int, gt_int, ge_int, not_bl, dEq_int, dNe_int, pow6, pow7, pow8, pow9, pow10, pow18, int1, len_lst, len_tup, tuple_lst, list_tup, seq_lst, seq_tup, seq_scr, enum_lst, enum_tup, min_int, max_int, ev_1_1, ev_1_2, ev_2_2, ev_1_3, ev_2_3, ev_3_3, ev_1_4, ev_2_4, ev_3_4, ev_4_4, ev_1_5, ev_2_5, ev_3_5, ev_4_5, ev_5_5, ev_1_6, ev_2_6, ev_3_6, ev_4_6, ev_5_6, ev_6_6, ev_1_7, ev_2_7, ev_3_7, ev_4_7, ev_5_7, ev_6_7, ev_7_7, ev_1_8, ev_2_8, ev_3_8, ev_4_8, ev_5_8, ev_6_8, ev_7_8, ev_8_8, ev_1_9, ev_2_9, ev_3_9, ev_4_9, ev_5_9, ev_6_9, ev_7_9, ev_8_9, ev_1_10, ev_2_10, ev_3_10, ev_4_10, ev_5_10, ev_6_10, ev_7_10, ev_8_10, ev_1_11, ev_2_11, ev_3_11, ev_4_11, ev_5_11, ev_6_11, ev_7_11, ev_8_11, ev_1_12, ev_2_12, ev_3_12, ev_4_12, ev_5_12, ev_6_12, ev_7_12, ev_8_12, ev_1_13, ev_2_13, ev_3_13, ev_4_13, ev_5_13, ev_6_13, ev_7_13, ev_8_13, ev_1_14, ev_2_14, ev_3_14, ev_4_14, ev_5_14, ev_6_14, ev_7_14, ev_8_14, ev_1_15, ev_2_15, ev_3_15, ev_4_15, ev_5_15, ev_6_15, ev_7_15, ev_8_15, ev_1_16, ev_2_16, ev_3_16, ev_4_16, ev_5_16, ev_6_16, ev_7_16, ev_8_16, ev_1_17, ev_2_17, ev_3_17, ev_4_17, ev_5_17, ev_6_17, ev_7_17, ev_8_17, ev_1_18, ev_2_18, ev_3_18, ev_4_18, ev_5_18, ev_6_18, ev_7_18, ev_8_18, ev_1_19, ev_2_19, ev_3_19, ev_4_19, ev_5_19, ev_6_19, ev_7_19, ev_8_19, ev_1_20, ev_2_20, ev_3_20, ev_4_20, ev_5_20, ev_6_20, ev_7_20, ev_8_20, ev_1_21, ev_2_21, ev_3_21, ev_4_21, ev_5_21, ev_6_21, ev_7_21, ev_8_21, dIsiC, tyD, Option.map_some, Bool.not_false]
theorem meq_int {p : Pl} {i : Int} {st : Sto} {R : Dat → Sto → Prop} {E : XP} : Is (F_m_Setting_eq [dSet p, .int i] st) R E ↔ R (.bl false) st := by
  unfold F_m_Setting_eq b_m_Setting_eq_den
  simp only [is_2, is_1, is_Isi, is_B, is_Cons, is_Nil, is_Get, is_Var, vi_sh, is_C, is_Tup, is_Lst, is_Ite, is_And, is_Or, is_Call, is_Seq', is_L, is_Sl, pi_none, pi_some, ex_int, is_Chain, is_Lc, is_few, is_slNil, is_slSh, is_slOw, si_nx, si_rt, si_Seq, si_Skip, si_Break, si_Cont, si_RetN, si_Asg, si_Ret, si_Do, si_If, si_For, si_AsgT, si_Put, si_Rel, si_App, ai_ow, si_AsgO, si_Par, is_Dict, is_Attr, ti_obj, is_Make, is_Meth, mi_obj, is_LenO, ni_obj, ni_tup, ni_lst, is_EqO, ei_obj, ei_tup, ei_lst, ei_int, is_IxO, xi_obj, xi_tup, xi_lst, si_SetA, ui_ob, is_Lc2, is_fnF, is_fnI, bi_t, bi_f, oi_some, List.getElem?_cons_zero, List.getElem?_cons_succ, List.set_cons_zero, List.set_cons_succ, List.length_cons, List.length_nil, Nat.reduceAdd, Nat.reduceLeDiff, true_and, and_true, lk_self, tg_name, tg_tup, tg_cons, tg_nil, Option.bind_some, List.cons_append, List.nil_append, setE_nil, setE_cons, wipe_nil, wipe_cons, setS_nil, setS_cons, add_int, sub_int, neg_int, lt_int, le_int, gt_int, ge_int, not_bl, dEq_int, dNe_int, pow6, pow7, pow8, pow9, pow10, pow18, int1, len_lst, len_tup, tuple_lst, list_tup, seq_lst, seq_tup, seq_scr, enum_lst, enum_tup, min_int, max_int, ev_1_1, ev_1_2, ev_2_2, ev_1_3, ev_2_3, ev_3_3, ev_1_4, ev_2_4, ev_3_4, ev_4_4, ev_1_5, ev_2_5, ev_3_5, ev_4_5, ev_5_5, ev_1_6, ev_2_6, ev_3_6, ev_4_6, ev_5_6, ev_6_6, ev_1_7, ev_2_7, ev_3_7, ev_4_7, ev_5_7, ev_6_7, ev_7_7, ev_1_8, ev_2_8, ev_3_8, ev_4_8, ev_5_8, ev_6_8, ev_7_8, ev_8_8, ev_1_9, ev_2_9, ev_3_9, ev_4_9, ev_5_9, ev_6_9, ev_7_9, ev_8_9, ev_1_10, ev_2_10, ev_3_10, ev_4_10, ev_5_10, ev_6_10, ev_7_10, ev_8_10, ev_1_11, ev_2_11, ev_3_11, ev_4_11, ev_5_11, ev_6_11, ev_7_11, ev_8_11, ev_1_12, ev_2_12, ev_3_12, ev_4_12, ev_5_12, ev_6_12, ev_7_12, ev_8_12, ev_1_13, ev_2_13, ev_3_13, ev_4_13, ev_5_13, ev_6_13, ev_7_13, ev_8_13, ev_1_14, ev_2_14, ev_3_14, ev_4_14, ev_5_14, ev_6_14, ev_7_14, ev_8_14, ev_1_15, ev_2_15, ev_3_15, ev_4_15, ev_5_15, ev_6_15, ev_7_15, ev_8_15, ev_1_16, ev_2_16, ev_3_16, ev_4_16, ev_5_16, ev_6_16, ev_7_16, ev_8_16, ev_1_17, ev_2_17, ev_3_17, ev_4_17, ev_5_17, ev_6_17, ev_7_17, ev_8_17, ev_1_18, ev_2_18, ev_3_18, ev_4_18, ev_5_18, ev_6_18, ev_7_18, ev_8_18, ev_1_19, ev_2_19, ev_3_19, ev_4_19, ev_5_19, ev_6_19, ev_7_19, ev_8_19, ev_1_20, ev_2_20, ev_3_20, ev_4_20, ev_5_20, ev_6_20, ev_7_20, ev_8_20, ev_1_21, ev_2_21, ev_3_21, ev_4_21, ev_5_21, ev_6_21, ev_7_21, ev_8_21, dIsiC, tyD, Option.map_some, Bool.not_false]
theorem rp_small {i : Int} (h0 : -10 ^ 20 < i) (h1 : i < 10 ^ 20) : Rp 0 101 (.int i) := rp_int (by omega) (by omega)
theorem rp_stamps {ns : List Int} (h : Stamps ns) (hl : ns.length ≤ 12) : Rp 1 1239 (dStamps ns) := rp_tup (m := 12) (fun d hd => by
  obtain ⟨i, hi, rfl⟩ := List.mem_map.mp hd
  have := h.2 i hi
  exact rp_small (i := i) (by omega) (by omega)) (by simpa using hl)
theorem len_le_total {cs : Cams} {ns : List Int} (h : ns ∈ cs) : ns.length ≤ total cs := le_sum (List.mem_map.mpr ⟨ns, h, rfl⟩)
theorem rp_cams {cs : Cams} (h : OkCams cs) : Rp 2 3726 (dCams cs) := rp_tup (m := 3) (fun d hd => by
  obtain ⟨ns, hn, rfl⟩ := List.mem_map.mp hd
  exact rp_stamps (h.each ns hn) (Nat.le_trans (len_le_total hn) h.tot)) (by simpa using h.few)
theorem rp_two {n b : Nat} {x y : Dat} (hx : Rp n b x) (hy : Rp n b y) : Rp (n + 1) (2 * (b + 2) + 3) (.tup [x, y]) := rp_tup (m := 2) (fun d hd => by
  rcases List.mem_cons.mp hd with e | e
  · rw [e]; exact hx
  · rw [List.mem_singleton.mp e]; exact hy) (by simp)
theorem rp_shot {s : Nat × Nat} (h1 : s.1 < 1000000) (h2 : s.2 < 1000000) : Rp 1 209 (dShot s) := rp_two (rp_small (by omega) (by omega)) (rp_small (by omega) (by omega))
theorem rp_bounds {bs : List (Int × Int)} (h : ∀ b ∈ bs, OkPair b) (hl : bs.length ≤ 3) : Rp 2 636 (dBounds bs) := rp_tup (m := 3) (fun d hd => by
  obtain ⟨b, hb, rfl⟩ := List.mem_map.mp hd
  obtain ⟨h1, h2, h3⟩ := h b hb
  exact rp_two (rp_small (i := b.1) (by omega) (by omega)) (rp_small (i := b.2) (by omega) (by omega))) (by simpa using hl)
theorem isShot_lt {cs : Cams} {s : Nat × Nat} (h : IsShot cs s) (hc : OkCams cs) : s.1 < 3 ∧ s.2 < 12 := by
  obtain ⟨ns, h1, h2⟩ := h
  have h3 := (List.getElem?_eq_some_iff.mp h1).1
  have h4 := len_le_total (List.mem_of_getElem? h1)
  have := hc.few
  have := hc.tot
  omega
theorem rp_ties {cs : Cams} {ts : List Tie} (hc : OkCams cs) (h : ∀ t ∈ ts, OkTie cs t) (hl : ts.length ≤ 12) : Rp 3 10191 (dTies ts) := rp_tup (m := 12) (b := 847) (n := 2) (fun d hd => by
  obtain ⟨t, ht, rfl⟩ := List.mem_map.mp hd
  obtain ⟨h1, h2, h3⟩ := h t ht
  have l1 := isShot_lt h1 hc
  have l2 := isShot_lt h2 hc
  refine rp_tup (m := 4) (b := 209) (n := 1) (fun d hd => ?_) (by simp)
  simp only [List.mem_cons, List.not_mem_nil, or_false] at hd
  rcases hd with e | e | e | e <;> rw [e]
  · exact rp_shot (by omega) (by omega)
  · exact rp_shot (by omega) (by omega)
  · exact (rp_small (by omega) (by omega)).mono (by omega) (by omega)
  · exact (rp_small (by omega) (by omega)).mono (by omega) (by omega)) (by simpa using hl)
theorem rp_plain {p : Pl} (h : OkP p) : Rp 4 40775 (dPlain p) := rp_tup (m := 4) (b := 10191) (n := 3) (fun d hd => by
  have := h.cams.few
  have := h.blen
  have g0 := h.gap0
  have g1 := h.gap1
  simp only [List.mem_cons, List.not_mem_nil, or_false] at hd
  rcases hd with e | e | e | e <;> rw [e]
  · exact (rp_cams h.cams).mono (by omega) (by omega)
  · exact (rp_bounds h.bounds (by omega)).mono (by omega) (by omega)
  · exact rp_ties h.cams h.ties h.tlen
  · exact (rp_small (by omega) (by omega)).mono (by omega) (by omega)) (by simp)
end LW
set_option Elab.async false
set_option linter.all false
set_option maxRecDepth 100000
set_option maxHeartbeats 4000000
namespace LW
open PySem GI GP
theorem cut_from1 {α : Type} {enc : α → Dat} (x : α) (xs : List α) : cutD ((x :: xs).map enc) (some 1) none = xs.map enc := by
  unfold cutD HT.sIx
  simp [List.take_of_length_le]
theorem cut_from1' (xs : List Dat) : cutD xs (some 1) none = xs.drop 1 := by
  unfold cutD HT.sIx
  cases xs with
  | nil => rfl
  | cons x xs => simp [List.take_of_length_le]
theorem cut_last (xs : List Dat) (x : Dat) : cutD (xs ++ [x]) none (some (-1)) = xs := by
  unfold cutD HT.sIx
  have : ((-1 : Int) + ((xs ++ [x]).length : Int)).toNat = xs.length := by simp; omega
  dsimp only
  rw [if_pos (by decide), this]
  simp
theorem ix_last (xs : List Dat) (x : Dat) : dIx (.tup (xs ++ [x])) (.int (-1)) = some x := by
  show L2.atI (xs ++ [x]) (-1) = _
  unfold L2.atI L2.ixN
  simp
  rw [if_pos (by omega), show ((-1 : Int) + ((xs.length : Int) + 1)).toNat = xs.length by omega]
  simp
theorem unl1 {b : Int × Int} {bs : List (Int × Int)} {env : GI.Env} (he : env[4]? = some (some (.sh (dBounds (b :: bs))))) : ∃ w : Int × Int, OkPair w ∧ w ≠ b ∧ ∀ (R : Dat → Sto → Prop) (st : Sto) (E : XP), Is (sIte (s2 dNe (s2 dIx (sVar 4) (sC (.int 0))) (sTup (sCons (s2 dSub (sC (.int 0)) (s2 dPow (sC (.int 10)) (sC (.int 9)))) (sCons (s2 dPow (sC (.int 10)) (sC (.int 9))) (sNil))))) (sTup (sCons (s2 dSub (sC (.int 0)) (s2 dPow (sC (.int 10)) (sC (.int 9)))) (sCons (s2 dPow (sC (.int 10)) (sC (.int 9))) (sNil)))) (sTup (sCons (sC (.int 0)) (sCons (sC (.int 0)) (sNil)))) env st) R E ↔ R (dPair w) st := by
  have ix : dIx (dBounds (b :: bs)) (.int 0) = some (dPair b) := by
    rw [ix_t (by decide) (by simp)]
    rfl
  by_cases z : b = (-1000000000, 1000000000)
  · refine ⟨(0, 0), ⟨by decide, by decide, by decide⟩, by rw [z]; decide, fun R st E => ?_⟩
    simp only [is_2, is_1, is_Isi, is_B, is_Cons, is_Nil, is_Get, is_Var, vi_sh, is_C, is_Tup, is_Lst, is_Ite, is_And, is_Or, is_Call, is_Seq', is_L, is_Sl, pi_none, pi_some, ex_int, is_Chain, is_Lc, is_few, is_slNil, is_slSh, is_slOw, si_nx, si_rt, si_Seq, si_Skip, si_Break, si_Cont, si_RetN, si_Asg, si_Ret, si_Do, si_If, si_For, si_AsgT, si_Put, si_Rel, si_App, ai_ow, si_AsgO, si_Par, is_Dict, is_Attr, ti_obj, is_Make, is_Meth, mi_obj, is_LenO, ni_obj, ni_tup, ni_lst, is_EqO, ei_obj, ei_tup, ei_lst, ei_int, is_IxO, xi_obj, xi_tup, xi_lst, si_SetA, ui_ob, is_Lc2, is_fnF, is_fnI, bi_t, bi_f, oi_some, List.getElem?_cons_zero, List.getElem?_cons_succ, List.set_cons_zero, List.set_cons_succ, List.length_cons, List.length_nil, Nat.reduceAdd, Nat.reduceLeDiff, true_and, and_true, lk_self, tg_name, tg_tup, tg_cons, tg_nil, Option.bind_some, List.cons_append, List.nil_append, setE_nil, setE_cons, wipe_nil, wipe_cons, setS_nil, setS_cons, add_int, sub_int, neg_int, lt_int, le_int, gt_int, ge_int, not_bl, dEq_int, dNe_int, pow6, pow7, pow8, pow9, pow10, pow18, int1, len_lst, len_tup, tuple_lst, list_tup, seq_lst, seq_tup, seq_scr, enum_lst, enum_tup, min_int, max_int, he, ix]
    rw [show Dat.tup [.int (0 - 1000000000), .int 1000000000] = dPair (-1000000000, 1000000000) from rfl, dNe_pair, z]
    exact Iff.rfl
  · refine ⟨(-1000000000, 1000000000), ⟨by decide, by decide, by decide⟩, fun e => z e.symm, fun R st E => ?_⟩
    simp only [is_2, is_1, is_Isi, is_B, is_Cons, is_Nil, is_Get, is_Var, vi_sh, is_C, is_Tup, is_Lst, is_Ite, is_And, is_Or, is_Call, is_Seq', is_L, is_Sl, pi_none, pi_some, ex_int, is_Chain, is_Lc, is_few, is_slNil, is_slSh, is_slOw, si_nx, si_rt, si_Seq, si_Skip, si_Break, si_Cont, si_RetN, si_Asg, si_Ret, si_Do, si_If, si_For, si_AsgT, si_Put, si_Rel, si_App, ai_ow, si_AsgO, si_Par, is_Dict, is_Attr, ti_obj, is_Make, is_Meth, mi_obj, is_LenO, ni_obj, ni_tup, ni_lst, is_EqO, ei_obj, ei_tup, ei_lst, ei_int, is_IxO, xi_obj, xi_tup, xi_lst, si_SetA, ui_ob, is_Lc2, is_fnF, is_fnI, bi_t, bi_f, oi_some, List.getElem?_cons_zero, List.getElem?_cons_succ, List.set_cons_zero, List.set_cons_succ, List.length_cons, List.length_nil, Nat.reduceAdd, Nat.reduceLeDiff, true_and, and_true, lk_self, tg_name, tg_tup, tg_cons, tg_nil, Option.bind_some, List.cons_append, List.nil_append, setE_nil, setE_cons, wipe_nil, wipe_cons, setS_nil, setS_cons, add_int, sub_int, neg_int, lt_int, le_int, gt_int, ge_int, not_bl, dEq_int, dNe_int, pow6, pow7, pow8, pow9, pow10, pow18, int1, len_lst, len_tup, tuple_lst, list_tup, seq_lst, seq_tup, seq_scr, enum_lst, enum_tup, min_int, max_int, he, ix]
    rw [show Dat.tup [.int (0 - 1000000000), .int 1000000000] = dPair (-1000000000, 1000000000) from rfl, dNe_pair, oi_some, decide_eq_true z]
    exact Iff.rfl
theorem ok_bounds {p : Pl} (h : OkP p) {bs : List (Int × Int)} (hl : bs.length = p.bounds.length) (hb : ∀ b ∈ bs, OkPair b) : OkP { p with bounds := bs } := ⟨h.cams, by show bs.length = _; rw [hl]; exact h.blen, hb, h.tlen, h.ties, h.gap0, h.gap1⟩
theorem ok_ties {p : Pl} (h : OkP p) {ts : List Tie} (hl : ts.length ≤ 12) (hb : ∀ b ∈ ts, b ∈ p.ties) : OkP { p with ties := ts } := ⟨h.cams, h.blen, h.bounds, hl, fun t ht => h.ties t (hb t ht), h.gap0, h.gap1⟩
theorem ok_gap {p : Pl} (h : OkP p) {g : Int} (h0 : 1 ≤ g) (h1 : g ≤ 10000000000) : OkP { p with gap := g } := ⟨h.cams, h.blen, h.bounds, h.tlen, h.ties, h0, h1⟩
theorem ok_more {p : Pl} (h : OkP p) {cs : Cams} {ns : List Int} (e : p.cams = cs ++ [ns]) (ht : total p.cams < 12) : OkP { p with cams := cs ++ [ns ++ [1000000000]] } := by
  have hc := h.cams
  have l1 := hc.some
  have l2 := hc.few
  have hs : ∀ x ∈ cs ++ [ns], Stamps x := by rw [← e]; exact hc.each
  have tt : total (cs ++ [ns ++ [1000000000]]) = total (cs ++ [ns]) + 1 := by simp [total]; omega
  rw [e] at ht l1 l2
  have sh : ∀ s, IsShot p.cams s → IsShot (cs ++ [ns ++ [1000000000]]) s := fun s ⟨x, x1, x2⟩ => by
    rw [e] at x1
    by_cases z : s.1 < cs.length
    · rw [List.getElem?_append_left z] at x1
      exact ⟨x, by rw [List.getElem?_append_left z]; exact x1, x2⟩
    · have z2 := (List.getElem?_eq_some_iff.mp x1).1
      simp at z2
      have z3 : s.1 = cs.length := by omega
      rw [z3] at x1
      simp at x1
      subst x1
      exact ⟨ns ++ [1000000000], by rw [z3]; simp, by simp; omega⟩
  refine ⟨⟨by simp, by simpa using l2, fun x hx => ?_, by show total (cs ++ [ns ++ [1000000000]]) ≤ 12; omega⟩, ?_, h.bounds, h.tlen, fun t ht => ?_, h.gap0, h.gap1⟩
  · rcases List.mem_append.mp hx with z | z
    · exact hs x (by simp [z])
    · rw [List.mem_singleton.mp z]
      have q := hs ns (by simp)
      refine ⟨List.pairwise_append.mpr ⟨q.1, by simp, fun a ha b hb => ?_⟩, fun y hy => ?_⟩
      · rw [List.mem_singleton.mp hb]; exact (q.2 a ha).2
      · rcases List.mem_append.mp hy with w | w
        · exact q.2 y w
        · rw [List.mem_singleton.mp w]; exact ⟨by decide, by decide⟩
  · have := h.blen
    rw [e] at this
    simp at this ⊢
    exact this
  · obtain ⟨a, b, c⟩ := h.ties t ht
    exact ⟨sh _ a, sh _ b, c⟩
theorem dNe_ties0 (x : List Tie) : dNe (dTies x) (.tup []) = some (.bl (decide (x ≠ []))) := dNe_ties x []
theorem unlike_spec {p : Pl} {st : Sto} {R : Dat → Sto → Prop} {E : XP} (h : OkP p) (k : ∀ qs : List Pl, qs.length ≤ 4 → (∀ q ∈ qs, same q p = false ∧ same p q = false) → R (.lst (qs.map dSet)) st) : Is (F_l_unlike [dPlain p] st) R E := by
  unfold F_l_unlike b_l_unlike_den
  obtain ⟨b, bs, hb⟩ : ∃ b bs, p.bounds = b :: bs := by
    have h1 := h.blen
    have h2 := h.cams.some
    cases e : p.bounds with
    | nil => rw [e] at h1; simp at h1; omega
    | cons b bs => exact ⟨b, bs, rfl⟩
  rw [is_fnF, ev_1_8, si_Seq, si_AsgT, is_Var]
  try simp only [vi_sh, oi_some, List.getElem?_cons_zero, List.getElem?_cons_succ, List.set_cons_zero, List.set_cons_succ, List.length_cons, List.length_nil, Nat.reduceAdd, Nat.reduceLeDiff, true_and, and_true, lk_self, tg_name, tg_tup, tg_cons, tg_nil, Option.bind_some, List.cons_append, List.nil_append, setE_nil, setE_cons, wipe_nil, wipe_cons, setS_nil, setS_cons]
  have hbs := h.bounds
  have hbl := h.blen
  rw [hb] at hbs hbl
  obtain ⟨w, hw, hwb, e1⟩ := unl1 (b := b) (bs := bs) (env := [some (.sh (dPlain p)), none, none, some (.sh (dCams p.cams)), some (.sh (dBounds p.bounds)), some (.sh (dTies p.ties)), some (.sh (.int p.gap)), none]) (by rw [hb]; rfl)
  rw [si_Seq, si_Asg, e1]
  try simp only [vi_sh, oi_some, List.getElem?_cons_zero, List.getElem?_cons_succ, List.set_cons_zero, List.set_cons_succ, List.length_cons, List.length_nil, Nat.reduceAdd, Nat.reduceLeDiff, true_and, and_true, lk_self, tg_name, tg_tup, tg_cons, tg_nil, Option.bind_some, List.cons_append, List.nil_append, setE_nil, setE_cons, wipe_nil, wipe_cons, setS_nil, setS_cons]
  have o1 : OkP { p with bounds := w :: bs } := ok_bounds h (by rw [hb]; simp) fun x hx => by
    rcases List.mem_cons.mp hx with z | z
    · rw [z]; exact hw
    · exact hbs x (by simp [z])
  have d1 : ∀ q ∈ [({ p with bounds := w :: bs } : Pl)], same q p = false ∧ same p q = false := fun q hq => by
    rw [List.mem_singleton.mp hq]
    have : ¬ w :: bs = p.bounds := by rw [hb]; intro e; exact hwb (by injection e)
    have t : ¬ p.bounds = w :: bs := fun e => this e.symm
    exact ⟨by simp [same, this], by simp [same, t]⟩
  let Inv : Nat → GI.Env → Sto → Prop := fun n e s => s = st ∧ ∃ (qs : List Pl) (e7 : Option GI.Slot), e = [some (.sh (dPlain p)), some (.sh (dPair w)), some (.ow (qs.map dSet)), some (.sh (dCams p.cams)), some (.sh (dBounds p.bounds)), some (.sh (dTies p.ties)), some (.sh (.int p.gap)), e7] ∧ qs.length ≤ n ∧ ∀ q ∈ qs, same q p = false ∧ same p q = false
  have more : ∀ (n : Nat) (qs : List Pl) (q : Pl) (e7 : Option GI.Slot), qs.length ≤ n → (∀ q ∈ qs, same q p = false ∧ same p q = false) → same q p = false → same p q = false → Inv (n + 1) [some (.sh (dPlain p)), some (.sh (dPair w)), some (.ow (qs.map dSet ++ [dSet q])), some (.sh (dCams p.cams)), some (.sh (dBounds p.bounds)), some (.sh (dTies p.ties)), some (.sh (.int p.gap)), e7] st := fun n qs q e7 hl hq h1 h2 => by
    refine ⟨rfl, qs ++ [q], e7, by simp, by simp; omega, fun x hx => ?_⟩
    rcases List.mem_append.mp hx with z | z
    · exact hq x z
    · rw [List.mem_singleton.mp z]; exact ⟨h1, h2⟩
  have wider : ∀ (n : Nat) (qs : List Pl) (e7 : Option GI.Slot), qs.length ≤ n → (∀ q ∈ qs, same q p = false ∧ same p q = false) → Inv (n + 1) [some (.sh (dPlain p)), some (.sh (dPair w)), some (.ow (qs.map dSet)), some (.sh (dCams p.cams)), some (.sh (dBounds p.bounds)), some (.sh (dTies p.ties)), some (.sh (.int p.gap)), e7] st := fun n qs e7 hl hq => ⟨rfl, qs, e7, rfl, by omega, hq⟩
  refine si_cut (Inv 1) ?_ ?_
  · simp only [is_2, is_1, is_Isi, is_B, is_Cons, is_Nil, is_Get, is_Var, vi_sh, is_C, is_Tup, is_Lst, is_Ite, is_And, is_Or, is_Call, is_Seq', is_L, is_Sl, pi_none, pi_some, ex_int, is_Chain, is_Lc, is_few, is_slNil, is_slSh, is_slOw, si_nx, si_rt, si_Seq, si_Skip, si_Break, si_Cont, si_RetN, si_Asg, si_Ret, si_Do, si_If, si_For, si_AsgT, si_Put, si_Rel, si_App, ai_ow, si_AsgO, si_Par, is_Dict, is_Attr, ti_obj, is_Make, is_Meth, mi_obj, is_LenO, ni_obj, ni_tup, ni_lst, is_EqO, ei_obj, ei_tup, ei_lst, ei_int, is_IxO, xi_obj, xi_tup, xi_lst, si_SetA, ui_ob, is_Lc2, is_fnF, is_fnI, bi_t, bi_f, oi_some, List.getElem?_cons_zero, List.getElem?_cons_succ, List.set_cons_zero, List.set_cons_succ, List.length_cons, List.length_nil, Nat.reduceAdd, Nat.reduceLeDiff, true_and, and_true, lk_self, tg_name, tg_tup, tg_cons, tg_nil, Option.bind_some, List.cons_append, List.nil_append, setE_nil, setE_cons, wipe_nil, wipe_cons, setS_nil, setS_cons, add_int, sub_int, neg_int, lt_int, le_int, gt_int, ge_int, not_bl, dEq_int, dNe_int, pow6, pow7, pow8, pow9, pow10, pow18, int1, len_lst, len_tup, tuple_lst, list_tup, seq_lst, seq_tup, seq_scr, enum_lst, enum_tup, min_int, max_int, dSl, hb, cut_from1]
    rw [add_t (by simp at hbl ⊢; have := h.cams.few; omega)]
    simp only [is_2, is_1, is_Isi, is_B, is_Cons, is_Nil, is_Get, is_Var, vi_sh, is_C, is_Tup, is_Lst, is_Ite, is_And, is_Or, is_Call, is_Seq', is_L, is_Sl, pi_none, pi_some, ex_int, is_Chain, is_Lc, is_few, is_slNil, is_slSh, is_slOw, si_nx, si_rt, si_Seq, si_Skip, si_Break, si_Cont, si_RetN, si_Asg, si_Ret, si_Do, si_If, si_For, si_AsgT, si_Put, si_Rel, si_App, ai_ow, si_AsgO, si_Par, is_Dict, is_Attr, ti_obj, is_Make, is_Meth, mi_obj, is_LenO, ni_obj, ni_tup, ni_lst, is_EqO, ei_obj, ei_tup, ei_lst, ei_int, is_IxO, xi_obj, xi_tup, xi_lst, si_SetA, ui_ob, is_Lc2, is_fnF, is_fnI, bi_t, bi_f, oi_some, List.getElem?_cons_zero, List.getElem?_cons_succ, List.set_cons_zero, List.set_cons_succ, List.length_cons, List.length_nil, Nat.reduceAdd, Nat.reduceLeDiff, true_and, and_true, lk_self, tg_name, tg_tup, tg_cons, tg_nil, Option.bind_some, List.cons_append, List.nil_append, setE_nil, setE_cons, wipe_nil, wipe_cons, setS_nil, setS_cons, add_int, sub_int, neg_int, lt_int, le_int, gt_int, ge_int, not_bl, dEq_int, dNe_int, pow6, pow7, pow8, pow9, pow10, pow18, int1, len_lst, len_tup, tuple_lst, list_tup, seq_lst, seq_tup, seq_scr, enum_lst, enum_tup, min_int, max_int]
    rw [show dPair w :: bs.map dPair = (w :: bs).map dPair from rfl]
    refine make_ok o1 ?_
    rw [← hb]
    exact ⟨rfl, [{ p with bounds := w :: bs }], none, rfl, by simp, d1⟩
  rintro env st' ⟨rfl, qs, e7, rfl, hl, hq⟩
  refine si_cut (Inv 2) ?_ ?_
  · simp only [is_2, is_1, is_Isi, is_B, is_Cons, is_Nil, is_Get, is_Var, vi_sh, is_C, is_Tup, is_Lst, is_Ite, is_And, is_Or, is_Call, is_Seq', is_L, is_Sl, pi_none, pi_some, ex_int, is_Chain, is_Lc, is_few, is_slNil, is_slSh, is_slOw, si_nx, si_rt, si_Seq, si_Skip, si_Break, si_Cont, si_RetN, si_Asg, si_Ret, si_Do, si_If, si_For, si_AsgT, si_Put, si_Rel, si_App, ai_ow, si_AsgO, si_Par, is_Dict, is_Attr, ti_obj, is_Make, is_Meth, mi_obj, is_LenO, ni_obj, ni_tup, ni_lst, is_EqO, ei_obj, ei_tup, ei_lst, ei_int, is_IxO, xi_obj, xi_tup, xi_lst, si_SetA, ui_ob, is_Lc2, is_fnF, is_fnI, bi_t, bi_f, oi_some, List.getElem?_cons_zero, List.getElem?_cons_succ, List.set_cons_zero, List.set_cons_succ, List.length_cons, List.length_nil, Nat.reduceAdd, Nat.reduceLeDiff, true_and, and_true, lk_self, tg_name, tg_tup, tg_cons, tg_nil, Option.bind_some, List.cons_append, List.nil_append, setE_nil, setE_cons, wipe_nil, wipe_cons, setS_nil, setS_cons, add_int, sub_int, neg_int, lt_int, le_int, gt_int, ge_int, not_bl, dEq_int, dNe_int, pow6, pow7, pow8, pow9, pow10, pow18, int1, len_lst, len_tup, tuple_lst, list_tup, seq_lst, seq_tup, seq_scr, enum_lst, enum_tup, min_int, max_int, show dRev (dTies p.ties) = some (dTies p.ties.reverse) from by simp [dRev], dNe_ties, bi_dec, List.length_map]
    have o2 : OkP { p with ties := p.ties.reverse } := ok_ties h (by simpa using h.tlen) fun b hb => by simpa using hb
    refine ⟨fun z => ?_, fun _ => wider 1 qs e7 hl hq⟩
    refine make_ok (p := { p with ties := p.ties.reverse }) o2 ⟨by omega, ?_⟩
    exact more 1 qs { p with ties := p.ties.reverse } e7 hl hq (by simp [same, z]) (by simp [same, show ¬ p.ties = p.ties.reverse from fun e => z e.symm])
  rintro env st' ⟨rfl, qs, e7, rfl, hl, hq⟩
  refine si_cut (Inv 3) ?_ ?_
  · simp only [is_2, is_1, is_Isi, is_B, is_Cons, is_Nil, is_Get, is_Var, vi_sh, is_C, is_Tup, is_Lst, is_Ite, is_And, is_Or, is_Call, is_Seq', is_L, is_Sl, pi_none, pi_some, ex_int, is_Chain, is_Lc, is_few, is_slNil, is_slSh, is_slOw, si_nx, si_rt, si_Seq, si_Skip, si_Break, si_Cont, si_RetN, si_Asg, si_Ret, si_Do, si_If, si_For, si_AsgT, si_Put, si_Rel, si_App, ai_ow, si_AsgO, si_Par, is_Dict, is_Attr, ti_obj, is_Make, is_Meth, mi_obj, is_LenO, ni_obj, ni_tup, ni_lst, is_EqO, ei_obj, ei_tup, ei_lst, ei_int, is_IxO, xi_obj, xi_tup, xi_lst, si_SetA, ui_ob, is_Lc2, is_fnF, is_fnI, bi_t, bi_f, oi_some, List.getElem?_cons_zero, List.getElem?_cons_succ, List.set_cons_zero, List.set_cons_succ, List.length_cons, List.length_nil, Nat.reduceAdd, Nat.reduceLeDiff, true_and, and_true, lk_self, tg_name, tg_tup, tg_cons, tg_nil, Option.bind_some, List.cons_append, List.nil_append, setE_nil, setE_cons, wipe_nil, wipe_cons, setS_nil, setS_cons, add_int, sub_int, neg_int, lt_int, le_int, gt_int, ge_int, not_bl, dEq_int, dNe_int, pow6, pow7, pow8, pow9, pow10, pow18, int1, len_lst, len_tup, tuple_lst, list_tup, seq_lst, seq_tup, seq_scr, enum_lst, enum_tup, min_int, max_int, dNe_ties0, bi_dec, dSl, List.length_map]
    refine ⟨fun z => ?_, fun _ => wider 2 qs e7 hl hq⟩
    obtain ⟨t, ts, ht⟩ : ∃ t ts, p.ties = t :: ts := by
      cases e : p.ties with
      | nil => exact absurd e z
      | cons t ts => exact ⟨t, ts, rfl⟩
    have n1 : ¬ ts = p.ties := by rw [ht]; intro e; have := congrArg List.length e; simp at this
    rw [show cutD (p.ties.map dTie) (some 1) none = ts.map dTie by rw [ht]; exact cut_from1 t ts]
    have o2 : OkP { p with ties := ts } := ok_ties h (by have := h.tlen; rw [ht] at this; simp at this; omega) fun b hb => by rw [ht]; simp [hb]
    refine make_ok (p := { p with ties := ts }) o2 ⟨by omega, ?_⟩
    exact more 2 qs { p with ties := ts } e7 hl hq (by simp [same, n1]) (by simp [same, show ¬ p.ties = ts from fun e => n1 e.symm])
  rintro env st' ⟨rfl, qs, e7, rfl, hl, hq⟩
  refine si_cut (Inv 4) ?_ ?_
  · have h12 := h.cams.tot
    have hf := h.cams.few
    simp only [si_If, is_2, is_B, is_Call, is_Cons, is_Nil, is_Var, vi_sh, oi_some, List.getElem?_cons_zero, List.getElem?_cons_succ, List.set_cons_zero, List.set_cons_succ, List.length_cons, List.length_nil, Nat.reduceAdd, Nat.reduceLeDiff, true_and, and_true, lk_self, tg_name, tg_tup, tg_cons, tg_nil, Option.bind_some, List.cons_append, List.nil_append, setE_nil, setE_cons, wipe_nil, wipe_cons, setS_nil, setS_cons, is_C]
    refine shots_aux (by omega) (by omega) ?_
    simp only [len_lst, lt_int, oi_some, List.length_map, shotsOf_len, bi_dec]
    refine ⟨fun z => ?_, fun _ => wider 3 qs e7 hl hq⟩
    obtain ⟨cs, ns, hc⟩ : ∃ cs ns, p.cams = cs ++ [ns] := by
      have := h.cams.some
      exact ⟨p.cams.dropLast, p.cams.getLast (by intro e; rw [e] at this; simp at this), (List.dropLast_concat_getLast _).symm⟩
    have hm := ok_more h hc (by omega)
    have e1 : dCams p.cams = .tup (cs.map dStamps ++ [dStamps ns]) := by unfold dCams; rw [hc]; simp
    have n1 : ¬ cs ++ [ns ++ [1000000000]] = p.cams := by
      rw [hc]; intro e
      have := congrArg total e
      simp [total] at this
    simp only [is_2, is_1, is_Isi, is_B, is_Cons, is_Nil, is_Get, is_Var, vi_sh, is_C, is_Tup, is_Lst, is_Ite, is_And, is_Or, is_Call, is_Seq', is_L, is_Sl, pi_none, pi_some, ex_int, is_Chain, is_Lc, is_few, is_slNil, is_slSh, is_slOw, si_nx, si_rt, si_Seq, si_Skip, si_Break, si_Cont, si_RetN, si_Asg, si_Ret, si_Do, si_If, si_For, si_AsgT, si_Put, si_Rel, si_App, ai_ow, si_AsgO, si_Par, is_Dict, is_Attr, ti_obj, is_Make, is_Meth, mi_obj, is_LenO, ni_obj, ni_tup, ni_lst, is_EqO, ei_obj, ei_tup, ei_lst, ei_int, is_IxO, xi_obj, xi_tup, xi_lst, si_SetA, ui_ob, is_Lc2, is_fnF, is_fnI, bi_t, bi_f, oi_some, List.getElem?_cons_zero, List.getElem?_cons_succ, List.set_cons_zero, List.set_cons_succ, List.length_cons, List.length_nil, Nat.reduceAdd, Nat.reduceLeDiff, true_and, and_true, lk_self, tg_name, tg_tup, tg_cons, tg_nil, Option.bind_some, List.cons_append, List.nil_append, setE_nil, setE_cons, wipe_nil, wipe_cons, setS_nil, setS_cons, add_int, sub_int, neg_int, lt_int, le_int, gt_int, ge_int, not_bl, dEq_int, dNe_int, pow6, pow7, pow8, pow9, pow10, pow18, int1, len_lst, len_tup, tuple_lst, list_tup, seq_lst, seq_tup, seq_scr, enum_lst, enum_tup, min_int, max_int]
    rw [e1]
    simp only [is_2, is_1, is_Isi, is_B, is_Cons, is_Nil, is_Get, is_Var, vi_sh, is_C, is_Tup, is_Lst, is_Ite, is_And, is_Or, is_Call, is_Seq', is_L, is_Sl, pi_none, pi_some, ex_int, is_Chain, is_Lc, is_few, is_slNil, is_slSh, is_slOw, si_nx, si_rt, si_Seq, si_Skip, si_Break, si_Cont, si_RetN, si_Asg, si_Ret, si_Do, si_If, si_For, si_AsgT, si_Put, si_Rel, si_App, ai_ow, si_AsgO, si_Par, is_Dict, is_Attr, ti_obj, is_Make, is_Meth, mi_obj, is_LenO, ni_obj, ni_tup, ni_lst, is_EqO, ei_obj, ei_tup, ei_lst, ei_int, is_IxO, xi_obj, xi_tup, xi_lst, si_SetA, ui_ob, is_Lc2, is_fnF, is_fnI, bi_t, bi_f, oi_some, List.getElem?_cons_zero, List.getElem?_cons_succ, List.set_cons_zero, List.set_cons_succ, List.length_cons, List.length_nil, Nat.reduceAdd, Nat.reduceLeDiff, true_and, and_true, lk_self, tg_name, tg_tup, tg_cons, tg_nil, Option.bind_some, List.cons_append, List.nil_append, setE_nil, setE_cons, wipe_nil, wipe_cons, setS_nil, setS_cons, add_int, sub_int, neg_int, lt_int, le_int, gt_int, ge_int, not_bl, dEq_int, dNe_int, pow6, pow7, pow8, pow9, pow10, pow18, int1, len_lst, len_tup, tuple_lst, list_tup, seq_lst, seq_tup, seq_scr, enum_lst, enum_tup, min_int, max_int, dSl, cut_last, ix_last]
    rw [add_t (by simp; have := len_le_total (cs := p.cams) (ns := ns) (by rw [hc]; simp); omega), oi_some, add_t (by rw [hc] at hf; simp at hf ⊢; omega), oi_some]
    rw [show Dat.tup (cs.map dStamps ++ [Dat.tup (ns.map Dat.int ++ [Dat.int 1000000000])]) = dCams (cs ++ [ns ++ [1000000000]]) by unfold dCams; simp]
    refine make_ok (p := { p with cams := cs ++ [ns ++ [1000000000]] }) hm ⟨by simp; omega, ?_⟩
    rw [← e1]
    exact more 3 qs { p with cams := cs ++ [ns ++ [1000000000]] } _ hl hq (by simp [same, n1]) (by simp [same, show ¬ p.cams = cs ++ [ns ++ [1000000000]] from fun e => n1 e.symm])
  rintro env st' ⟨rfl, qs, e7, rfl, hl, hq⟩
  simp only [is_2, is_1, is_Isi, is_B, is_Cons, is_Nil, is_Get, is_Var, vi_sh, is_C, is_Tup, is_Lst, is_Ite, is_And, is_Or, is_Call, is_Seq', is_L, is_Sl, pi_none, pi_some, ex_int, is_Chain, is_Lc, is_few, is_slNil, is_slSh, is_slOw, si_nx, si_rt, si_Seq, si_Skip, si_Break, si_Cont, si_RetN, si_Asg, si_Ret, si_Do, si_If, si_For, si_AsgT, si_Put, si_Rel, si_App, ai_ow, si_AsgO, si_Par, is_Dict, is_Attr, ti_obj, is_Make, is_Meth, mi_obj, is_LenO, ni_obj, ni_tup, ni_lst, is_EqO, ei_obj, ei_tup, ei_lst, ei_int, is_IxO, xi_obj, xi_tup, xi_lst, si_SetA, ui_ob, is_Lc2, is_fnF, is_fnI, bi_t, bi_f, oi_some, List.getElem?_cons_zero, List.getElem?_cons_succ, List.set_cons_zero, List.set_cons_succ, List.length_cons, List.length_nil, Nat.reduceAdd, Nat.reduceLeDiff, true_and, and_true, lk_self, tg_name, tg_tup, tg_cons, tg_nil, Option.bind_some, List.cons_append, List.nil_append, setE_nil, setE_cons, wipe_nil, wipe_cons, setS_nil, setS_cons, add_int, sub_int, neg_int, lt_int, le_int, gt_int, ge_int, not_bl, dEq_int, dNe_int, pow6, pow7, pow8, pow9, pow10, pow18, int1, len_lst, len_tup, tuple_lst, list_tup, seq_lst, seq_tup, seq_scr, enum_lst, enum_tup, min_int, max_int, relE]
  exact k qs hl hq
theorem rp_shots {cs : Cams} (h : OkCams cs) : Rp 2 2535 (.tup ((shotsOf cs).map dShot)) := rp_tup (m := 12) (b := 209) (n := 1) (fun d hd => by
  obtain ⟨s, hs, rfl⟩ := List.mem_map.mp hd
  have := isShot_lt (mem_shotsOf.mp hs) h
  exact rp_shot (by omega) (by omega)) (by rw [List.length_map, shotsOf_len]; exact h.tot)
theorem stamp_in {cs : Cams} {s : Nat × Nat} (h : IsShot cs s) (hc : OkCams cs) : -1000000000 ≤ (cs.getD s.1 []).getD s.2 0 ∧ (cs.getD s.1 []).getD s.2 0 ≤ 1000000000 := by
  obtain ⟨ns, h1, h2⟩ := h
  have e : (cs.getD s.1 []).getD s.2 0 = ns[s.2] := by
    simp [List.getD, h1, List.getElem?_eq_getElem h2]
  rw [e]
  exact (hc.each ns (List.mem_of_getElem? h1)).2 _ (List.getElem_mem h2)
theorem ex_bl {x : Bool} {P : Bool → Prop} : (∃ b, Dat.bl x = .bl b ∧ P b) ↔ P x := ⟨fun ⟨b, e, h⟩ => by cases e; exact h, fun h => ⟨x, rfl, h⟩⟩
theorem nf_set {p : Pl} : nfD ["Setting"] (dSet p) = true := rfl
theorem nf_tup {ds : List Dat} : nfD ["Setting"] (.tup ds) = true := rfl
theorem nf_int {i : Int} : nfD ["Setting"] (.int i) = true := rfl
theorem ix_plain0 {p : Pl} : dIx (dPlain p) (.int 0) = some (dCams p.cams) := rfl
theorem ix_plain1 {p : Pl} : dIx (dPlain p) (.int 1) = some (dBounds p.bounds) := rfl
theorem ix_plain2 {p : Pl} : dIx (dPlain p) (.int 2) = some (dTies p.ties) := rfl
theorem ix_plain3 {p : Pl} : dIx (dPlain p) (.int 3) = some (.int p.gap) := rfl
theorem law_k01_is {ns : List Int} (hl : ns.length ≤ 63) : Is (F_law_k01 [.scr (ns.map Dat.int)] []) fun d _ => d = .bl true := by
  unfold F_law_k01 b_law_k01_den
  rw [is_fnF, ev_1_11, si_Seq, si_Asg, is_Call, is_Cons, is_Var]
  simp only [vi_sh, oi_some, List.getElem?_cons_zero, List.getElem?_cons_succ, List.set_cons_zero, List.set_cons_succ, List.length_cons, List.length_nil, Nat.reduceAdd, Nat.reduceLeDiff, true_and, and_true, lk_self, tg_name, tg_tup, tg_cons, tg_nil, Option.bind_some, List.cons_append, List.nil_append, setE_nil, setE_cons, wipe_nil, wipe_cons, setS_nil, setS_cons, is_Nil]
  refine begun_spec hl fun st0 m0 => ?_
  try simp only [vi_sh, oi_some, List.getElem?_cons_zero, List.getElem?_cons_succ, List.set_cons_zero, List.set_cons_succ, List.length_cons, List.length_nil, Nat.reduceAdd, Nat.reduceLeDiff, true_and, and_true, lk_self, tg_name, tg_tup, tg_cons, tg_nil, Option.bind_some, List.cons_append, List.nil_append, setE_nil, setE_cons, wipe_nil, wipe_cons, setS_nil, setS_cons]
  rw [si_Seq, si_For, is_L]
  simp only [is_Cons, is_C, is_Nil, vi_sh, oi_some, List.getElem?_cons_zero, List.getElem?_cons_succ, List.set_cons_zero, List.set_cons_succ, List.length_cons, List.length_nil, Nat.reduceAdd, Nat.reduceLeDiff, true_and, and_true, lk_self, tg_name, tg_tup, tg_cons, tg_nil, Option.bind_some, List.cons_append, List.nil_append, setE_nil, setE_cons, wipe_nil, wipe_cons, setS_nil, setS_cons]
  rw [show dRange1 [.int 4] = some (rangeD 0 4) from rfl, oi_some, rangeD_map]
  refine for_T (fun r env st => ∃ a e2 e3 e4 e5 e6 e7 e8 e9 e10, env = [some (.sh (.scr (ns.map Dat.int))), some (.sh (.loc 0)), e2, e3, e4, e5, e6, e7, e8, e9, e10] ∧ a + r.length * 700 ≤ 10000 ∧ Mst a [] st) ?_ ?_ ⟨0, none, none, none, none, none, none, none, none, none, rfl, by simp, m0⟩
  · rintro i r env st _ ⟨a, e2, e3, e4, e5, e6, e7, e8, e9, e10, rfl, ha, m⟩
    rw [List.length_cons] at ha
    try simp only [vi_sh, oi_some, List.getElem?_cons_zero, List.getElem?_cons_succ, List.set_cons_zero, List.set_cons_succ, List.length_cons, List.length_nil, Nat.reduceAdd, Nat.reduceLeDiff, true_and, and_true, lk_self, tg_name, tg_tup, tg_cons, tg_nil, Option.bind_some, List.cons_append, List.nil_append, setE_nil, setE_cons, wipe_nil, wipe_cons, setS_nil, setS_cons]
    rw [si_Seq, si_Asg, is_Call, is_Cons, is_Var]
    simp only [vi_sh, oi_some, List.getElem?_cons_zero, List.getElem?_cons_succ, List.set_cons_zero, List.set_cons_succ, List.length_cons, List.length_nil, Nat.reduceAdd, Nat.reduceLeDiff, true_and, and_true, lk_self, tg_name, tg_tup, tg_cons, tg_nil, Option.bind_some, List.cons_append, List.nil_append, setE_nil, setE_cons, wipe_nil, wipe_cons, setS_nil, setS_cons, is_Nil]
    refine far_spec m (by omega) fun p st1 op m1 => ?_
    try simp only [vi_sh, oi_some, List.getElem?_cons_zero, List.getElem?_cons_succ, List.set_cons_zero, List.set_cons_succ, List.length_cons, List.length_nil, Nat.reduceAdd, Nat.reduceLeDiff, true_and, and_true, lk_self, tg_name, tg_tup, tg_cons, tg_nil, Option.bind_some, List.cons_append, List.nil_append, setE_nil, setE_cons, wipe_nil, wipe_cons, setS_nil, setS_cons]
    have m2 : a + 700 + r.length * 700 ≤ 10000 := by omega
    have fin : ∀ (e2 e3 e4 e5 e6 e7 e8 e9 e10), ∃ a_1 f2 f3 f4 f5 f6 f7 f8 f9 f10, ([some (.sh (.scr (ns.map Dat.int))), some (.sh (.loc 0)), e2, e3, e4, e5, e6, e7, e8, e9, e10] : GI.Env) = [some (.sh (.scr (ns.map Dat.int))), some (.sh (.loc 0)), f2, f3, f4, f5, f6, f7, f8, f9, f10] ∧ a_1 + r.length * 700 ≤ 10000 ∧ Mst a_1 [] st1 := fun e2 e3 e4 e5 e6 e7 e8 e9 e10 => ⟨a + 700, e2, e3, e4, e5, e6, e7, e8, e9, e10, rfl, m2, m1⟩
    -- made twice
    rw [si_Seq, si_AsgT, is_Tup]
    simp only [is_Cons, is_Call, is_Var, is_Nil, vi_sh, oi_some, List.getElem?_cons_zero, List.getElem?_cons_succ, List.set_cons_zero, List.set_cons_succ, List.length_cons, List.length_nil, Nat.reduceAdd, Nat.reduceLeDiff, true_and, and_true, lk_self, tg_name, tg_tup, tg_cons, tg_nil, Option.bind_some, List.cons_append, List.nil_append, setE_nil, setE_cons, wipe_nil, wipe_cons, setS_nil, setS_cons]
    refine made_ok op ?_
    refine made_ok op ?_
    try simp only [vi_sh, oi_some, List.getElem?_cons_zero, List.getElem?_cons_succ, List.set_cons_zero, List.set_cons_succ, List.length_cons, List.length_nil, Nat.reduceAdd, Nat.reduceLeDiff, true_and, and_true, lk_self, tg_name, tg_tup, tg_cons, tg_nil, Option.bind_some, List.cons_append, List.nil_append, setE_nil, setE_cons, wipe_nil, wipe_cons, setS_nil, setS_cons]
    -- isinstance
    rw [si_Seq, si_If]
    simp only [is_1, is_Var, vi_sh, oi_some, List.getElem?_cons_zero, List.getElem?_cons_succ, List.set_cons_zero, List.set_cons_succ, List.length_cons, List.length_nil, Nat.reduceAdd, Nat.reduceLeDiff, true_and, and_true, lk_self, tg_name, tg_tup, tg_cons, tg_nil, Option.bind_some, List.cons_append, List.nil_append, setE_nil, setE_cons, wipe_nil, wipe_cons, setS_nil, setS_cons, dIsiC, Option.map_some, not_bl, Bool.not_true, bi_f, si_Skip]
    -- its fields
    rw [si_Seq, si_If]
    simp only [is_1, is_Call, is_Cons, is_Tup, is_Attr, ti_obj, is_Var, is_Nil, vi_sh, oi_some, List.getElem?_cons_zero, List.getElem?_cons_succ, List.set_cons_zero, List.set_cons_succ, List.length_cons, List.length_nil, Nat.reduceAdd, Nat.reduceLeDiff, true_and, and_true, lk_self, tg_name, tg_tup, tg_cons, tg_nil, Option.bind_some, List.cons_append, List.nil_append, setE_nil, setE_cons, wipe_nil, wipe_cons, setS_nil, setS_cons]
    refine like_spec (rp_plain op) (by decide) (by decide) ?_
    try simp only [vi_sh, oi_some, List.getElem?_cons_zero, List.getElem?_cons_succ, List.set_cons_zero, List.set_cons_succ, List.length_cons, List.length_nil, Nat.reduceAdd, Nat.reduceLeDiff, true_and, and_true, lk_self, tg_name, tg_tup, tg_cons, tg_nil, Option.bind_some, List.cons_append, List.nil_append, setE_nil, setE_cons, wipe_nil, wipe_cons, setS_nil, setS_cons, not_bl, Bool.not_true, bi_f, si_Skip]
    -- shots
    rw [si_Seq, si_Asg]
    simp only [is_Call, is_Cons, is_2, is_Var, is_C, is_Nil, vi_sh, oi_some, List.getElem?_cons_zero, List.getElem?_cons_succ, List.set_cons_zero, List.set_cons_succ, List.length_cons, List.length_nil, Nat.reduceAdd, Nat.reduceLeDiff, true_and, and_true, lk_self, tg_name, tg_tup, tg_cons, tg_nil, Option.bind_some, List.cons_append, List.nil_append, setE_nil, setE_cons, wipe_nil, wipe_cons, setS_nil, setS_cons, ix_plain0]
    have ht := op.cams.tot
    have hf := op.cams.few
    refine shots_aux (by omega) (by omega) ?_
    try simp only [vi_sh, oi_some, List.getElem?_cons_zero, List.getElem?_cons_succ, List.set_cons_zero, List.set_cons_succ, List.length_cons, List.length_nil, Nat.reduceAdd, Nat.reduceLeDiff, true_and, and_true, lk_self, tg_name, tg_tup, tg_cons, tg_nil, Option.bind_some, List.cons_append, List.nil_append, setE_nil, setE_cons, wipe_nil, wipe_cons, setS_nil, setS_cons]
    rw [si_Seq, si_If]
    simp only [is_1, is_Call, is_Cons, is_Lst, is_Meth, mi_obj, is_LenO, ni_obj, is_B, is_Var, is_Nil, vi_sh, oi_some, List.getElem?_cons_zero, List.getElem?_cons_succ, List.set_cons_zero, List.set_cons_succ, List.length_cons, List.length_nil, Nat.reduceAdd, Nat.reduceLeDiff, true_and, and_true, lk_self, tg_name, tg_tup, tg_cons, tg_nil, Option.bind_some, List.cons_append, List.nil_append, setE_nil, setE_cons, wipe_nil, wipe_cons, setS_nil, setS_cons]
    refine mshots_ok op ?_
    refine mlen_ok op ?_
    refine ⟨_, rfl, by omega, by omega, ?_⟩
    simp only [vi_sh, oi_some, List.getElem?_cons_zero, List.getElem?_cons_succ, List.set_cons_zero, List.set_cons_succ, List.length_cons, List.length_nil, Nat.reduceAdd, Nat.reduceLeDiff, true_and, and_true, lk_self, tg_name, tg_tup, tg_cons, tg_nil, Option.bind_some, List.cons_append, List.nil_append, setE_nil, setE_cons, wipe_nil, wipe_cons, setS_nil, setS_cons, tuple_lst, len_lst, List.length_map, shotsOf_len]
    refine like_spec (n := 3) (b := 5077) (rp_lst (m := 2) (b := 2535) (n := 2) (fun d hd => ?_) (by simp)) (by decide) (by decide) ?_
    · rcases List.mem_cons.mp hd with e | e
      · rw [e]; exact rp_shots op.cams
      · rw [List.mem_singleton.mp e]; exact (rp_small (by omega) (by omega)).mono (by omega) (by omega)
    try simp only [vi_sh, oi_some, List.getElem?_cons_zero, List.getElem?_cons_succ, List.set_cons_zero, List.set_cons_succ, List.length_cons, List.length_nil, Nat.reduceAdd, Nat.reduceLeDiff, true_and, and_true, lk_self, tg_name, tg_tup, tg_cons, tg_nil, Option.bind_some, List.cons_append, List.nil_append, setE_nil, setE_cons, wipe_nil, wipe_cons, setS_nil, setS_cons, not_bl, Bool.not_true, bi_f, si_Skip]
    -- the stamps
    rw [si_Seq, si_If]
    simp only [is_1, is_Call, is_Cons, is_Lc, is_Seq', is_Var, is_Nil, vi_sh, oi_some, List.getElem?_cons_zero, List.getElem?_cons_succ, List.set_cons_zero, List.set_cons_succ, List.length_cons, List.length_nil, Nat.reduceAdd, Nat.reduceLeDiff, true_and, and_true, lk_self, tg_name, tg_tup, tg_cons, tg_nil, Option.bind_some, List.cons_append, List.nil_append, setE_nil, setE_cons, wipe_nil, wipe_cons, setS_nil, setS_cons, seq_lst, List.length_map, shotsOf_len]
    refine ⟨by omega, lc_mapT (enc := dShot) (fun s => .int ((p.cams.getD s.1 []).getD s.2 0)) (fun s hs => ?_) ?_⟩
    · simp only [vi_sh, oi_some, List.getElem?_cons_zero, List.getElem?_cons_succ, List.set_cons_zero, List.set_cons_succ, List.length_cons, List.length_nil, Nat.reduceAdd, Nat.reduceLeDiff, true_and, and_true, lk_self, tg_name, tg_tup, tg_cons, tg_nil, Option.bind_some, List.cons_append, List.nil_append, setE_nil, setE_cons, wipe_nil, wipe_cons, setS_nil, setS_cons, is_IxO, is_Var, xi_obj]
      exact mget_ok (mem_shotsOf.mp hs) ⟨rfl, rfl⟩
    refine ⟨by omega, lc_mapT (enc := dShot) (fun s => .int ((p.cams.getD s.1 []).getD s.2 0)) (fun s hs => ?_) ?_⟩
    · obtain ⟨ns, h1, h2⟩ := mem_shotsOf.mp hs
      have h3 := (List.getElem?_eq_some_iff.mp h1).1
      simp only [vi_sh, oi_some, List.getElem?_cons_zero, List.getElem?_cons_succ, List.set_cons_zero, List.set_cons_succ, List.length_cons, List.length_nil, Nat.reduceAdd, Nat.reduceLeDiff, true_and, and_true, lk_self, tg_name, tg_tup, tg_cons, tg_nil, Option.bind_some, List.cons_append, List.nil_append, setE_nil, setE_cons, wipe_nil, wipe_cons, setS_nil, setS_cons, is_2, is_C, is_Var, ix_plain0, ixt2_0, ixt2_1]
      rw [ix_cams (by omega) (by omega), Int.toNat_natCast, oi_some, ix_t (by omega) (by simp [List.getD, h1]; omega), Int.toNat_natCast]
      simp [List.getD, h1, List.getElem?_eq_getElem h2, oI]
    refine like_spec (n := 1) (b := 1239) (rp_lst (m := 12) (b := 101) (n := 0) (fun d hd => ?_) (by rw [List.length_map, shotsOf_len]; exact ht)) (by decide) (by decide) ?_
    · obtain ⟨s, hs, rfl⟩ := List.mem_map.mp hd
      have := stamp_in (mem_shotsOf.mp hs) op.cams
      exact rp_small (i := (p.cams.getD s.1 []).getD s.2 0) (by omega) (by omega)
    try simp only [vi_sh, oi_some, List.getElem?_cons_zero, List.getElem?_cons_succ, List.set_cons_zero, List.set_cons_succ, List.length_cons, List.length_nil, Nat.reduceAdd, Nat.reduceLeDiff, true_and, and_true, lk_self, tg_name, tg_tup, tg_cons, tg_nil, Option.bind_some, List.cons_append, List.nil_append, setE_nil, setE_cons, wipe_nil, wipe_cons, setS_nil, setS_cons, not_bl, Bool.not_true, bi_f, si_Skip]
    -- another gap
    rw [si_Seq, si_Asg]
    simp only [is_Make, is_Cons, is_2, is_B, is_Var, is_C, is_Nil, vi_sh, oi_some, List.getElem?_cons_zero, List.getElem?_cons_succ, List.set_cons_zero, List.set_cons_succ, List.length_cons, List.length_nil, Nat.reduceAdd, Nat.reduceLeDiff, true_and, and_true, lk_self, tg_name, tg_tup, tg_cons, tg_nil, Option.bind_some, List.cons_append, List.nil_append, setE_nil, setE_cons, wipe_nil, wipe_cons, setS_nil, setS_cons, ix_plain0, ix_plain1, ix_plain2, ix_plain3, int1, pow10]
    rw [mod_int (by decide), oi_some, add_int, oi_some]
    have g0 := op.gap0
    have g1 := op.gap1
    have q0 := Int.emod_nonneg p.gap (show (10000000000 : Int) ≠ 0 by decide)
    have q1 := Int.emod_lt_of_pos p.gap (show (0 : Int) < 10000000000 by decide)
    have ne : ¬ p.gap = p.gap % 10000000000 + 1 := by omega
    refine make_ok (p := { p with gap := p.gap % 10000000000 + 1 }) (ok_gap op (by omega) (by omega)) ?_
    try simp only [vi_sh, oi_some, List.getElem?_cons_zero, List.getElem?_cons_succ, List.set_cons_zero, List.set_cons_succ, List.length_cons, List.length_nil, Nat.reduceAdd, Nat.reduceLeDiff, true_and, and_true, lk_self, tg_name, tg_tup, tg_cons, tg_nil, Option.bind_some, List.cons_append, List.nil_append, setE_nil, setE_cons, wipe_nil, wipe_cons, setS_nil, setS_cons]
    -- equal, unlike
    rw [si_Seq, si_Asg]
    have sm : same p { p with gap := p.gap % 10000000000 + 1 } = false := by simp [same, ne]
    simp only [is_Lst, is_Cons, is_EqO, ei_obj, is_Var, is_C, is_Nil, vi_sh, oi_some, List.getElem?_cons_zero, List.getElem?_cons_succ, List.set_cons_zero, List.set_cons_succ, List.length_cons, List.length_nil, Nat.reduceAdd, Nat.reduceLeDiff, true_and, and_true, lk_self, tg_name, tg_tup, tg_cons, tg_nil, Option.bind_some, List.cons_append, List.nil_append, setE_nil, setE_cons, wipe_nil, wipe_cons, setS_nil, setS_cons, meq_ok, meq_tup, meq_int, same_self, nf_set, nf_tup, nf_int, ex_bl, sm]
    rw [si_Seq, si_If]
    simp only [is_1, is_Call, is_Cons, is_Lst, is_Var, is_C, is_Nil, vi_sh, oi_some, List.getElem?_cons_zero, List.getElem?_cons_succ, List.set_cons_zero, List.set_cons_succ, List.length_cons, List.length_nil, Nat.reduceAdd, Nat.reduceLeDiff, true_and, and_true, lk_self, tg_name, tg_tup, tg_cons, tg_nil, Option.bind_some, List.cons_append, List.nil_append, setE_nil, setE_cons, wipe_nil, wipe_cons, setS_nil, setS_cons]
    refine like_spec (n := 1) (b := 621) (rp_lst (m := 6) (b := 101) (n := 0) (fun d hd => ?_) (by simp)) (by decide) (by decide) ?_
    · simp only [List.mem_cons, List.not_mem_nil, or_false] at hd
      rcases hd with e | e | e | e | e | e <;> rw [e] <;> exact rp_bl _
    try simp only [vi_sh, oi_some, List.getElem?_cons_zero, List.getElem?_cons_succ, List.set_cons_zero, List.set_cons_succ, List.length_cons, List.length_nil, Nat.reduceAdd, Nat.reduceLeDiff, true_and, and_true, lk_self, tg_name, tg_tup, tg_cons, tg_nil, Option.bind_some, List.cons_append, List.nil_append, setE_nil, setE_cons, wipe_nil, wipe_cons, setS_nil, setS_cons, not_bl, Bool.not_true, bi_f, si_Skip]
    rw [si_If]
    simp only [is_2, is_Lc, is_Seq', is_Call, is_Cons, is_Var, is_Nil, is_Lst, vi_sh, oi_some, List.getElem?_cons_zero, List.getElem?_cons_succ, List.set_cons_zero, List.set_cons_succ, List.length_cons, List.length_nil, Nat.reduceAdd, Nat.reduceLeDiff, true_and, and_true, lk_self, tg_name, tg_tup, tg_cons, tg_nil, Option.bind_some, List.cons_append, List.nil_append, setE_nil, setE_cons, wipe_nil, wipe_cons, setS_nil, setS_cons]
    refine unlike_spec op fun qs hql hqs => ?_
    simp only [seq_lst, oi_some, List.length_map]
    refine ⟨by omega, lc_filterT (enc := dSet) (fun _ => false) (fun _ => .int 1) (fun q hq => ?_) ?_⟩
    · obtain ⟨d1, d2⟩ := hqs q hq
      simp only [vi_sh, oi_some, List.getElem?_cons_zero, List.getElem?_cons_succ, List.set_cons_zero, List.set_cons_succ, List.length_cons, List.length_nil, Nat.reduceAdd, Nat.reduceLeDiff, true_and, and_true, lk_self, tg_name, tg_tup, tg_cons, tg_nil, Option.bind_some, List.cons_append, List.nil_append, setE_nil, setE_cons, wipe_nil, wipe_cons, setS_nil, setS_cons, is_Or, is_1, is_EqO, ei_obj, is_Var, meq_ok, nf_set, ex_bl, d1, d2, not_bl, show (false != false) = false from rfl, show (false != true) = true from rfl, bi_f, Bool.not_true]
      exact fun z => by cases z
    rw [List.filter_eq_nil_iff.mpr (by simp)]
    rw [List.map_nil, show dNe (.lst []) (.lst []) = some (.bl false) from dNe_nil []]
    simp only [vi_sh, oi_some, List.getElem?_cons_zero, List.getElem?_cons_succ, List.set_cons_zero, List.set_cons_succ, List.length_cons, List.length_nil, Nat.reduceAdd, Nat.reduceLeDiff, true_and, and_true, lk_self, tg_name, tg_tup, tg_cons, tg_nil, Option.bind_some, List.cons_append, List.nil_append, setE_nil, setE_cons, wipe_nil, wipe_cons, setS_nil, setS_cons, bi_f, si_Skip]
    exact fin _ _ _ _ _ _ _ _ _
  · rintro env st ⟨a, e2, e3, e4, e5, e6, e7, e8, e9, e10, rfl, ha, m⟩
    simp only [is_2, is_1, is_Isi, is_B, is_Cons, is_Nil, is_Get, is_Var, vi_sh, is_C, is_Tup, is_Lst, is_Ite, is_And, is_Or, is_Call, is_Seq', is_L, is_Sl, pi_none, pi_some, ex_int, is_Chain, is_Lc, is_few, is_slNil, is_slSh, is_slOw, si_nx, si_rt, si_Seq, si_Skip, si_Break, si_Cont, si_RetN, si_Asg, si_Ret, si_Do, si_If, si_For, si_AsgT, si_Put, si_Rel, si_App, ai_ow, si_AsgO, si_Par, is_Dict, is_Attr, ti_obj, is_Make, is_Meth, mi_obj, is_LenO, ni_obj, ni_tup, ni_lst, is_EqO, ei_obj, ei_tup, ei_lst, ei_int, is_IxO, xi_obj, xi_tup, xi_lst, si_SetA, ui_ob, is_Lc2, is_fnF, is_fnI, bi_t, bi_f, oi_some, List.getElem?_cons_zero, List.getElem?_cons_succ, List.set_cons_zero, List.set_cons_succ, List.length_cons, List.length_nil, Nat.reduceAdd, Nat.reduceLeDiff, true_and, and_true, lk_self, tg_name, tg_tup, tg_cons, tg_nil, Option.bind_some, List.cons_append, List.nil_append, setE_nil, setE_cons, wipe_nil, wipe_cons, setS_nil, setS_cons, add_int, sub_int, neg_int, lt_int, le_int, gt_int, ge_int, not_bl, dEq_int, dNe_int, pow6, pow7, pow8, pow9, pow10, pow18, int1, len_lst, len_tup, tuple_lst, list_tup, seq_lst, seq_tup, seq_scr, enum_lst, enum_tup, min_int, max_int]
    rw [dEq_pn (n := 1) (m := 1) (.tup fun d hd => by simp only [List.mem_cons, List.not_mem_nil, or_false] at hd; rcases hd with e | e | e | e | e <;> rw [e] <;> exact .int _ _) (.tup fun d hd => by simp only [List.mem_cons, List.not_mem_nil, or_false] at hd; rcases hd with e | e | e | e | e <;> rw [e] <;> exact .int _ _) (by decide) (by decide), oi_some]
    simp
theorem plain_k01 (ns : List Int) (h1 : ns.length ≤ 63) (h2 : ∀ z ∈ ns, Builtin.Int.intBits z ≤ 1048576) : ∃ st, F_law_k01 [.scr (ns.map Dat.int)] [] = .ok (.bl true) st := by
  obtain ⟨d, st, e, rfl⟩ := (law_k01_is h1).ex
  exact ⟨st, e⟩
end LW
set_option Elab.async false
set_option linter.all false
set_option maxRecDepth 100000
set_option maxHeartbeats 0
namespace GH
open PySem PySem.Spec PyProof.Rows L2 GI
section
variable {P : Program} {w : World} {K : PySem.W.Frag} {mg mb : Str → Option Value} {k : Nat} {fa a : Addr} {fd : FuncData} {x : Str} {sp : Sp} {s₁ : Shared} {vs : List Value} {ns : List Int}
/-- what is asked of the abstract heap at the start: nothing but the script is tracked -/
structure Start (P : Program) (w : World) (K : PySem.W.Frag) (a : Addr) (ns : List Int) (h : Heap) (H : Hp) : Prop where
  only : Only H
  sq : SqL K H a (ns.map V.int)
  hok : HOk P w H h
  just : ∀ b, H b ≠ none → b = a
  out : H a ≠ none → K.lookup a = none
theorem start_of (KX : K.In s₁.heap) (ha : s₁.heap.get? a = some { cls := .type "list", data := .seq vs.toArray }) (hi : IntsAre vs ns) (hl : ns.length ≤ sizeLine) : ∃ H, Start P w K a ns s₁.heap H := by
  have rv := vals_ints hi
  cases hk : K.lookup a with
  | some o =>
    have e := KX a o hk
    rw [ha] at e
    cases e
    refine ⟨fun _ => none, fun _ => .inl rfl, .inr ⟨_, vs.toArray, _, hk, rfl, rfl, rfl, ?_, by simpa using rv⟩, fun b u z => ?_, fun b z => absurd rfl z, fun z => absurd rfl z⟩
    · rw [List.size_toArray, hi.length]; exact hl
    · exact absurd (show (none : Option HO) = some u from z) (by simp)
  | none =>
    let L : HO := .frz { cls := .type "list", data := .seq vs.toArray } (.lst (ns.map V.int))
    have at_ : ∀ b, (if b = a then some L else none) ≠ none → b = a := fun b z => by
      by_cases q : b = a
      · exact q
      · exact absurd (if_neg q) z
    refine ⟨fun b => if b = a then some L else none, fun b => ?_, .inl (.inr ⟨_, if_pos rfl⟩), fun b u z => ?_, at_, fun _ => hk⟩
    · by_cases q : b = a
      · exact .inr ⟨_, _, if_pos q⟩
      · exact .inl (if_neg q)
    · have z : (if b = a then some L else none) = some u := z
      have q : b = a := at_ b (by rw [z]; simp)
      rw [if_pos q] at z
      cases z
      subst q
      exact ⟨ha, by rw [List.length_map]; exact hl, vs, _, rv, ha⟩
theorem law_callG (KX : K.In s₁.heap) (hns : s₁.heap.Ns mainGlobals mg) (hb : s₁.heap.Ns builtinsNs mb) (hbb : ∀ x : Str, x ≠ "__name__" → mb x = bootBuiltins x) (hlim : s₁.heap.NoLimit) (hg : s₁.gens = #[])
    (ha : s₁.heap.get? a = some { cls := .type "list", data := .seq vs.toArray }) (hi : IntsAre vs ns) (hl : ns.length ≤ sizeLine) (hr : Room k callerA)
    (F : ∀ base : Heap, FnG P w K mg base (L2.CX P w) k fa fd [x] sp) (hbind : Binds K fd [x] [])
    (hsp : ∀ H : Hp, Only H → SqL K H a (ns.map V.int) → sp [.ref a] H (fun v _ => v = .bl true) fun _ _ _ => False) :
    codeAny (model P w) callerA (.call (.ref fa) ⟨[.ref a], []⟩) (fun r s' => r = .ok (.ret (.bool true)) ∧ OldK s₁.heap s'.heap ∧ s'.os = s₁.os ∧ AllBare s'.gens) s₁ := by
  obtain ⟨H, st⟩ := start_of (P := P) (w := w) KX ha hi hl
  have free : ∀ {b : Addr} {o : Obj}, s₁.heap.get? b = some o → (∀ es n, o.data ≠ .dict es n) ∨ True → (b ≠ a ∨ K.lookup b ≠ none) → H b = none := fun {b o} _ _ z => by
    cases q : H b with
    | none => rfl
    | some u =>
      have e : b = a := st.just b (by rw [q]; simp)
      rcases z with z | z
      · exact absurd e z
      · subst e
        exact absurd (st.out (by rw [q]; simp)) z
  have ns_of : ∀ {b : Addr} {m : Str → Option Value}, s₁.heap.Ns b m → (hidT s₁.heap H).Ns b m := fun {b m} h => by
    obtain ⟨o, es, ep, e, d, r⟩ := h
    refine ⟨o, es, ep, hidT_get e (free e (.inr trivial) (.inl fun z => ?_)), d, r⟩
    subst z
    rw [ha] at e
    cases e
    cases d
  have Kb : K.In (hidT s₁.heap H) := fun b o e => hidT_get (KX b o e) (free (KX b o e) (.inr trivial) (.inr (by rw [e]; simp)))
  have lim : (hidT s₁.heap H).NoLimit := by
    obtain ⟨mc, h1, h2⟩ := hlim
    exact ⟨mc, ns_of h1, h2⟩
  have e0 : Env0 P w K mg (hidT s₁.heap H) callerA [] s₁ H :=
    ⟨rfl, ⟨Kb, ns_of hns, ⟨mb, ns_of hb, hbb⟩, lim⟩, fun b o e => of_hidT e, Nat.le_of_eq (hidT_size _ _), trivial, fun b hb => absurd (show b ∈ ([] : List Addr) from hb) (by simp), st.hok, .of_eq hg⟩
  refine codeAny_mono ((F (hidT s₁.heap H)).run callerA [] s₁ H ⟨[.ref a], []⟩ [.ref a] [.ref a] _ _ rfl hr e0 (hbind s₁ [.ref a] KX rfl) (.cons rfl .nil) (hsp H st.only st.sq)) fun r s' h => ?_
  cases r with
  | error e =>
    have h : L2.CX P w [] H s₁ (fun _ _ _ => False) e s' := h
    obtain ⟨_, _, _, _, _, _, _, _, _, _, _, _, z⟩ := h
    exact z.elim
  | ok fl =>
    cases fl with
    | next => exact False.elim h
    | brk => exact False.elim h
    | cont => exact False.elim h
    | ret u =>
      obtain ⟨v, H', os, bare, un, hok', r', q⟩ := h
      have q : v = .bl true := q
      subst q
      cases (show u = Value.bool true from r')
      refine ⟨rfl, OldK.of_keep fun b o e => ?_, os, bare⟩
      rcases st.only b with z | ⟨ob, xs, z⟩
      · exact un.keep b o e z (fun z => absurd (show b ∈ ([] : List Addr) from z) (by simp)) (by simp)
      · obtain ⟨e1, _⟩ := st.hok b _ z
        obtain ⟨e2, _⟩ := hok' b _ (un.frzs b ob _ z)
        rw [e] at e1
        cases e1
        exact e2
end
/-- a law's walk: F gives the facts; the plain law -/
theorem walk_ofG {l : PySem.W.OpenLaw} {n k : Nat} {q : Program} {loose : List Str} {XP : (Str → Option Value) → Heap → Prop} {YP : World → Heap → Prop} {d : DefRec} {x : Str} {Fl : Fn}
    (hn : l.most = some n) (hn2 : n ≤ sizeLine) (hdf : d.params.defaults = []) (hr : Room k callerA)
    (F : ∀ (w : World) (mg : Str → Option Value) (fa : Addr) (h : Heap), YP w h → h.Ns mainGlobals mg → mg d.name = some (.ref fa) →
      ∃ (K : PySem.W.Frag) (fd : FuncData), K.In h ∧ Binds K fd [x] [] ∧ ∀ base : Heap, FnG l.prog w K mg base (L2.CX l.prog w) k fa fd [x] (spF K mg 1 Fl))
    (law : ∀ ns : List Int, ns.length ≤ n → (∀ z ∈ ns, Builtin.Int.intBits z ≤ 1048576) → ∃ st, Fl [.scr (ns.map Dat.int)] [] = .ok (.bl true) st) :
    PySem.W.WalkO q loose XP YP l.row.toRowW d [] (fun f vs => PySem.call f vs) := by
  refine Att.attach_callB hn hdf fun w s₀ s₁ mg mb fa o pm cd doc a vs ns G Y ho hd hcd hmg hobj hints hlen hbits hg => ?_
  obtain ⟨K, fd, KX, hb, hF⟩ := F w mg fa _ Y G.T.g hmg
  refine law_callG KX G.T.g G.T.b G.T.builtins G.T.nolimit hg hobj hints (Nat.le_trans hlen hn2) hr hF hb fun H hO hS => ?_
  · obtain ⟨st, e⟩ := law ns hlen hbits
    refine ⟨rfl, ⟨H, H, [], [], none⟩, [.scr (ns.map Dat.int)], rfl, ?_, .cons (.scr hS (RepL.of_ints ns)) .nil, ?_⟩
    · exact { sub := fun _ _ h => h, len := rfl, nd := List.nodup_nil, out := fun _ h => (nomatch h), here := fun n a o h _ => (nomatch (show ([] : List Addr)[n]? = some a from h)) }
    · rw [show ({ G := H, H := H, r := [], st := [], me := none } : Sx).st = [] from rfl, e]
      intro v S' _ _ _ r
      cases r
      rfl
end GH
set_option Elab.async false
set_option linter.all false
set_option maxRecDepth 100000
set_option maxHeartbeats 0
open PySem PySem.W PySem.Calls PyProof.Rows
theorem PySem.Challenge.cw_gapalbums_k01_settings_made_holds : PySem.Challenge.rw_gapalbums_k01_settings_made.Holds := by
  w_on; o_law
  refine HandSHeadRun.head_any (r := OpenLaw.row PySem.Challenge.rw_gapalbums_k01_settings_made) (q := view (OpenLaw.row PySem.Challenge.rw_gapalbums_k01_settings_made).prog [32]) (H := LW.hk) (ob := LW.ob) (M := 4000) (loose := LW.loose) (d := HandSHeadRun.topDef (OpenLaw.row PySem.Challenge.rw_gapalbums_k01_settings_made).prog 32) (kwd := []) LW.ob_eq
    (by kernel_rfl) (fun s => by kernel_rfl) LW.run (by kernel_rfl) (by kernel_rfl) (by kernel_rfl) (by rfl) (by first | assumption | decide +kernel) (by decide +kernel) ⟨rfl, rfl, rfl, rfl, rfl, by decide +kernel⟩ ?hw ?hc
  case hw => w_witness2
  case hc =>
    refine GH.walk_ofG (l := PySem.Challenge.rw_gapalbums_k01_settings_made) (n := 63) (k := 9) (x := "_law_script") (Fl := LW.F_law_k01) rfl (by decide) (by kernel_rfl) ⟨rfl, by decide, by decide⟩ ?F (fun ns h1 h2 => LW.plain_k01 ns h1 h2)
    intro w mg fa h Y G hmg0
    obtain ⟨K, KX, c⟩ := Y
    have hmg : mg ("law" : PySem.Str) = some (.ref fa) := by
      have e : (HandSHeadRun.topDef (OpenLaw.row PySem.Challenge.rw_gapalbums_k01_settings_made).prog 32).name = ("law" : PySem.Str) := by kernel_rfl
      rw [← e]
      exact hmg0
    obtain ⟨fx⟩ := LW.fx_of KX G c
    have e : fa = He.ga K "law" := by
      have e := hmg.symm.trans fx.g_law_k01
      cases e
      rfl
    subst e
    exact ⟨K, fx.fd_law_k01, KX, LW.bi_law_k01 fx, fun base => LW.ok_law_k01 fx⟩
