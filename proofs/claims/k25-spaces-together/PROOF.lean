import PyProof.Rows.All
import Wide.All
import OpenK.AllK
import Wide.FinOn
import HandS.ForMost
import HandS.Evl
import HandS.Lambda
import HandS.Wide
import HandS.Style
import HandS.TupAny
import HandS.TupMul
import HandS.NoneIn
import HandS.IsInst
import HandS.Conv
import HandS.Zip
import KE.GoesEnumKw
import KE.GoesMore
import HandS.SortKw
import KE.SortKeyHeap
import HandS.SortInts
import HandS.Star
import HandS.Deep
import HandS.Property
import HandS.EndTab
import PySem.Challenge.RW_whosees_k25_spaces_together
set_option Elab.async false
set_option linter.all false
set_option maxRecDepth 100000
set_option maxHeartbeats 2000000
/-! An abstract layer of my own above the hand layer: names hold data, or lists and dicts that the frame owns. -/
namespace AX
open PySem PySem.Spec PyProof.Rows L2 Evl

/-! ## data -/
inductive DV where
  | non | bl (b : Bool) | int (i : Int) | str (x : Str) | lst (xs : List DV) | tup (xs : List DV) | ob (t : Nat) (xs : List DV) | raw (v : V) | scr (ns : List Int)
/-- what is fixed for a whole program: the written part, the classes' places and fields, the tables of code objects -/
structure Sig where
  K : PySem.W.Frag
  cls : Nat → Addr
  flds : Nat → List Str
  T : List (Addr × Str)

mutual
inductive Rep (S : Sig) (B : Hp) : V → DV → Prop
  | non : Rep S B .non .non
  | bl (b : Bool) : Rep S B (.bl b) (.bl b)
  | int (i : Int) : Rep S B (.int i) (.int i)
  | str (x : Str) : Rep S B (.str x) (.str x)
  | lst {a : Addr} {xs : List V} {ds : List DV} : B a = some (.lst xs) → RepL S B xs ds → Rep S B (.ref a) (.lst ds)
  | tup {a : Addr} {xs : List V} {ds : List DV} : SqT S.K B a xs → RepL S B xs ds → Rep S B (.ref a) (.tup ds)
  | ob {a dx : Addr} {t : Nat} {fs : List (Str × V)} {ds : List DV} : B a = some (.ins (S.cls t) dx fs) → fs.map (·.1) = S.flds t → RepL S B (fs.map (·.2)) ds → Rep S B (.ref a) (.ob t ds)
  | raw (v : V) : Rep S B v (.raw v)
  | scr {a : Addr} {ns : List Int} : SqL S.K B a (ns.map V.int) → Rep S B (.ref a) (.scr ns)
inductive RepL (S : Sig) (B : Hp) : List V → List DV → Prop
  | nil : RepL S B [] []
  | cons {v : V} {vs : List V} {d : DV} {ds : List DV} : Rep S B v d → RepL S B vs ds → RepL S B (v :: vs) (d :: ds)
end
section
variable {S : Sig} {B B' : Hp}
mutual
theorem Rep.mono (e : Ex B B') : ∀ {v : V} {d : DV}, Rep S B v d → Rep S B' v d
  | _, _, .non => .non
  | _, _, .bl b => .bl b
  | _, _, .int i => .int i
  | _, _, .str x => .str x
  | _, _, .lst h r => .lst (e _ _ h) (RepL.mono e r)
  | _, _, .scr h => .scr (ex_l e h)
  | _, _, .tup h r => .tup (ex_t e h) (RepL.mono e r)
  | _, _, .ob h n r => .ob (e _ _ h) n (RepL.mono e r)
  | _, _, .raw v => .raw v
theorem RepL.mono (e : Ex B B') : ∀ {vs : List V} {ds : List DV}, RepL S B vs ds → RepL S B' vs ds
  | _, _, .nil => .nil
  | _, _, .cons h r => .cons (Rep.mono e h) (RepL.mono e r)
end
theorem RepL.length : ∀ {vs : List V} {ds : List DV}, RepL S B vs ds → vs.length = ds.length
  | _, _, .nil => rfl
  | _, _, .cons _ r => congrArg Nat.succ (RepL.length r)
theorem RepL.get : ∀ {vs : List V} {ds : List DV} {i : Nat} {d : DV}, RepL S B vs ds → ds[i]? = some d → ∃ v, vs[i]? = some v ∧ Rep S B v d
  | _, _, _, _, .nil, e => by simp at e
  | _, _, 0, _, .cons h _, e => by simp at e; subst e; exact ⟨_, rfl, h⟩
  | _, _, i + 1, d, .cons _ r, e => by
    obtain ⟨v, h1, h2⟩ := RepL.get (i := i) (d := d) r (by simpa using e)
    exact ⟨v, by simpa using h1, h2⟩
theorem RepL.get' : ∀ {vs : List V} {ds : List DV} {i : Nat} {v : V}, RepL S B vs ds → vs[i]? = some v → ∃ d, ds[i]? = some d ∧ Rep S B v d
  | _, _, _, _, .nil, e => by simp at e
  | _, _, 0, _, .cons h _, e => by simp at e; subst e; exact ⟨_, rfl, h⟩
  | _, _, i + 1, v, .cons _ r, e => by
    obtain ⟨d, h1, h2⟩ := RepL.get' (i := i) (v := v) r (by simpa using e)
    exact ⟨d, by simpa using h1, h2⟩
theorem RepL.append : ∀ {vs us : List V} {ds es : List DV}, RepL S B vs ds → RepL S B us es → RepL S B (vs ++ us) (ds ++ es)
  | _, _, _, _, .nil, s => s
  | _, _, _, _, .cons h r, s => .cons h (RepL.append r s)
theorem RepL.take : ∀ {vs : List V} {ds : List DV} (n : Nat), RepL S B vs ds → RepL S B (vs.take n) (ds.take n)
  | _, _, 0, _ => by simp only [List.take_zero]; exact .nil
  | _, _, _ + 1, .nil => .nil
  | _, _, n + 1, .cons h r => .cons h (RepL.take n r)
theorem RepL.drop : ∀ {vs : List V} {ds : List DV} (n : Nat), RepL S B vs ds → RepL S B (vs.drop n) (ds.drop n)
  | _, _, 0, r => r
  | _, _, _ + 1, .nil => .nil
  | _, _, n + 1, .cons _ r => RepL.drop n r
theorem RepL.set {v : V} {d : DV} (h : Rep S B v d) : ∀ {vs : List V} {ds : List DV} (i : Nat), RepL S B vs ds → RepL S B (vs.set i v) (ds.set i d)
  | _, _, _, .nil => .nil
  | _, _, 0, .cons _ r => .cons h r
  | _, _, i + 1, .cons q r => .cons q (RepL.set h i r)
theorem RepL.eraseIdx : ∀ {vs : List V} {ds : List DV} (i : Nat), RepL S B vs ds → RepL S B (vs.eraseIdx i) (ds.eraseIdx i)
  | _, _, _, .nil => .nil
  | _, _, 0, .cons _ r => r
  | _, _, i + 1, .cons q r => .cons q (RepL.eraseIdx i r)
theorem RepL.reverse : ∀ {vs : List V} {ds : List DV}, RepL S B vs ds → RepL S B vs.reverse ds.reverse
  | _, _, .nil => .nil
  | _, _, .cons h r => by
    rw [List.reverse_cons, List.reverse_cons]
    exact (RepL.reverse r).append (.cons h .nil)
theorem RepL.ints : ∀ (ns : List Int), RepL S B (ns.map V.int) (ns.map DV.int)
  | [] => .nil
  | n :: ns => .cons (.int n) (RepL.ints ns)
theorem Rep.int_inv {v : V} {i : Int} (h : Rep S B v (.int i)) : v = .int i := by cases h; rfl
theorem Rep.bl_inv {v : V} {b : Bool} (h : Rep S B v (.bl b)) : v = .bl b := by cases h; rfl
theorem Rep.str_inv {v : V} {x : Str} (h : Rep S B v (.str x)) : v = .str x := by cases h; rfl
theorem Rep.non_inv {v : V} (h : Rep S B v .non) : v = .non := by cases h; rfl
theorem Rep.raw_inv {v w : V} (h : Rep S B v (.raw w)) : v = w := by cases h; rfl
theorem Rep.lst_inv {v : V} {ds : List DV} (h : Rep S B v (.lst ds)) : ∃ a xs, v = .ref a ∧ B a = some (.lst xs) ∧ RepL S B xs ds := by
  cases h with
  | lst h r => exact ⟨_, _, rfl, h, r⟩
theorem Rep.tup_inv {v : V} {ds : List DV} (h : Rep S B v (.tup ds)) : ∃ a xs, v = .ref a ∧ SqT S.K B a xs ∧ RepL S B xs ds := by
  cases h with
  | tup h r => exact ⟨_, _, rfl, h, r⟩
theorem RepL.ints_inv : ∀ {vs : List V} {ns : List Int}, RepL S B vs (ns.map DV.int) → vs = ns.map V.int
  | _, [], h => by cases h; rfl
  | _, n :: ns, h => by
    cases h with
    | cons q r => rw [q.int_inv, RepL.ints_inv r]; rfl
end

/-! ## what a frame owns -/
inductive OV where
  | lst (ds : List DV)
  | dct (kvs : List (Key × DV))
  | obj (t : Nat) (fs : List (Str × DV))
/-- a slot: data, or a thing that may change: the j-th of the def's own parameters of this sort (some j), or one made in the def (none) -/
inductive AV where
  | imm (d : DV)
  | own (p : Option Nat) (o : OV)
abbrev Sto := List (Option AV)
abbrev KRep (S : Sig) (B : Hp) : List (Key × V) → List (Key × DV) → Prop := Paired fun p q => p.1 = q.1 ∧ Rep S B p.2 q.2
abbrev FRep (S : Sig) (B : Hp) : List (Str × V) → List (Str × DV) → Prop := Paired fun p q => p.1 = q.1 ∧ Rep S B p.2 q.2
def OvAt (S : Sig) (B H : Hp) (l : Addr) : OV → Prop
  | .lst ds => ∃ vs, H l = some (.lst vs) ∧ RepL S B vs ds
  | .dct kvs => ∃ kv, H l = some (.dK kv) ∧ KRep S B kv kvs
  | .obj t fs => ∃ dx vs, H l = some (.ins (S.cls t) dx vs) ∧ FRep S B vs fs
theorem KRep.mono {S : Sig} {B B' : Hp} (e : Ex B B') : ∀ {kv : List (Key × V)} {kvs : List (Key × DV)}, KRep S B kv kvs → KRep S B' kv kvs
  | _, _, .nil => .nil
  | _, _, .cons h r => .cons ⟨h.1, h.2.mono e⟩ (KRep.mono e r)
theorem FRep.mono {S : Sig} {B B' : Hp} (e : Ex B B') : ∀ {kv : List (Str × V)} {kvs : List (Str × DV)}, FRep S B kv kvs → FRep S B' kv kvs
  | _, _, .nil => .nil
  | _, _, .cons h r => .cons ⟨h.1, h.2.mono e⟩ (FRep.mono e r)
theorem OvAt.mono {S : Sig} {B B' H H' : Hp} {l : Addr} {o : OV} (h : OvAt S B H l o) (e : Ex B B') (k : H' l = H l) : OvAt S B' H' l o := by
  cases o with
  | lst ds => obtain ⟨vs, h1, h2⟩ := h; exact ⟨vs, k.trans h1, h2.mono e⟩
  | dct kvs => obtain ⟨kv, h1, h2⟩ := h; exact ⟨kv, k.trans h1, h2.mono e⟩
  | obj t fs => obtain ⟨dx, kv, h1, h2⟩ := h; exact ⟨dx, kv, k.trans h1, h2.mono e⟩
theorem OvAt.some {S : Sig} {B H : Hp} {l : Addr} {o : OV} (h : OvAt S B H l o) : ∃ u, H l = some u ∧ ∀ ps, u ≠ .tbl ps := by
  cases o with
  | lst ds => obtain ⟨vs, h1, h2⟩ := h; exact ⟨_, h1, fun ps z => by cases z⟩
  | dct kvs => obtain ⟨kv, h1, h2⟩ := h; exact ⟨_, h1, fun ps z => by cases z⟩
  | obj t fs => obtain ⟨dx, kv, h1, h2⟩ := h; exact ⟨_, h1, fun ps z => by cases z⟩
theorem OvAt.ne {S : Sig} {B H : Hp} {l : Addr} {o : OV} (h : OvAt S B H l o) : H l ≠ none := by
  obtain ⟨u, h, _⟩ := h.some
  rw [h]; simp
/-- nothing, or a table, lies at a -/
def Nn (H : Hp) (a : Addr) : Prop := ∀ o, H a = some o → ∃ ps, o = .tbl ps
theorem Nn.of {H : Hp} {a : Addr} (h : H a = none) : Nn H a := fun o e => by rw [h] at e; cases e
theorem OvAt.nn {S : Sig} {B H : Hp} {l : Addr} {o : OV} (h : OvAt S B H l o) : ¬ Nn H l := fun n => by
  obtain ⟨u, hu, hn⟩ := h.some
  obtain ⟨ps, e⟩ := n u hu
  exact hn ps e
/-- the def's start: what is known, the heap, where its own parameters of the changing sort lie -/
structure Gh where
  B0 : Hp
  H0 : Hp
  L0 : List Addr
def NoTbl (B : Hp) : Prop := ∀ a ps, B a ≠ some (.tbl ps)
/-- all but what lies at ls, and the tables, stays -/
def Kp (ls : List Addr) (H H' : Hp) : Prop := ∀ a o, a ∉ ls → (∀ ps, o ≠ .tbl ps) → H a = some o → H' a = some o
theorem Kp.refl (ls : List Addr) (H : Hp) : Kp ls H H := fun _ _ _ _ h => h
theorem Kp.trans {ls : List Addr} {H H1 H2 : Hp} (a : Kp ls H H1) (b : Kp ls H1 H2) : Kp ls H H2 := fun x o h n q => b x o h n (a x o h n q)
theorem Kp.ex {ls : List Addr} {H H' : Hp} (e : Ex H H') : Kp ls H H' := fun a o _ _ h => e a o h
def Plc (G : Gh) (l : Addr) : Option Nat → Prop
  | some j => G.L0[j]? = some l
  | none => Nn G.H0 l
def SlotOk (S : Sig) (G : Gh) (σ : L2.St) (B H : Hp) (i : Nat) : AV → Prop
  | .imm d => ∃ v, σ[i]? = some (some v) ∧ Rep S B v d
  | .own p o => ∃ l, σ[i]? = some (some (.ref l)) ∧ OvAt S B H l o ∧ B l = none ∧ Plc G l p
structure Rst (S : Sig) (G : Gh) (σ : L2.St) (B H : Hp) (δ : Sto) : Prop where
  exB : Ex G.B0 B
  nt : NoTbl B
  ex : Ex B H
  tab : LamX.Tabs S.T H
  keep : Kp G.L0 G.H0 H
  al : ∀ a, ¬ Nn G.H0 a → ¬ Nn H a
  l0 : ∀ a, a ∈ G.L0 → ¬ Nn G.H0 a
  fr : ∀ a, B a ≠ none → G.B0 a = none → Nn G.H0 a
  len : σ.length = δ.length
  sl : ∀ (i : Nat) (av : AV), δ[i]? = some (some av) → SlotOk S G σ B H i av
  sep : ∀ (i j : Nat) (l : Addr) (p : Option Nat) (o : OV) (p' : Option Nat) (o' : OV), δ[i]? = some (some (AV.own p o)) → δ[j]? = some (some (AV.own p' o')) → σ[i]? = some (some (.ref l)) → σ[j]? = some (some (.ref l)) → i = j

/-! ## the rules' weakest readings -/
def WE (X : Cx) (e : Expr) : TE := fun σ H Q => ∀ pins s, Inv X pins σ H s → wpAny (model X.prog X.w) X.A (eval e X.env) (EP X pins σ Q) X.xe s
def WT (X : Cx) (e : Expr) : TT := fun σ H Q => ∀ pins s, Inv X pins σ H s → wpAny (model X.prog X.w) X.A (isTrue e X.env (eval e X.env)) (TP X pins σ Q) X.xe s
def WW (X : Cx) (e : Expr) : TT := fun σ H Q => ∀ whole pins s, Inv X pins σ H s → wpAny (model X.prog X.w) X.A (isTrue e X.env whole) (TP X pins σ Q) X.xe s
def WA (X : Cx) (es : List Expr) : TA := fun σ H Q => ∀ pos pins s, Inv X pins σ H s → wpAny (model X.prog X.w) X.A (spliced (backTo pos (starEach es X.env))) (AP X pins σ Q) X.xe s
def WS (X : Cx) (st : Stmt) : TS := fun D σ H => ∀ pins s, Inv X pins σ H s → wpAny (model X.prog X.w) X.A (exec st X.env) (SP X pins D) X.xe s
def WSs (X : Cx) (st : List Stmt) : TS := fun D σ H => ∀ pins s, Inv X pins σ H s → wpAny (model X.prog X.w) X.A (execs st X.env) (SP X pins D) X.xe s
def WI (X : Cx) (tg iter : Expr) : TI := fun σ H R => ∀ pins s, Inv X pins σ H s → wpAny (model X.prog X.w) X.A (eval iter X.env) (fun v s1 => wpAny (model X.prog X.w) X.A (pyIter v) (PIE X pins σ tg R) X.xe s1) X.xe s
def WG (X : Cx) (tg : Expr) : TG := fun v σ H Q => ∀ pins s u, Inv X pins σ H s → RelV v u → wpAny (model X.prog X.w) X.A (assign tg X.env u) (fun _ s' => ∃ σ' H', Inv X pins σ' H' s' ∧ Q σ' H') X.xe s
section
variable {X : Cx}
theorem pw_e (e : Expr) : PE X e (WE X e) := ⟨fun pins s _ _ _ I h => h pins s I⟩
theorem pw_t (e : Expr) : PT X e (WT X e) := ⟨fun pins s _ _ _ I h => h pins s I⟩
theorem pw_w (e : Expr) : PW X e (WW X e) := ⟨fun whole pins s _ _ _ I h => h whole pins s I⟩
theorem pw_a (es : List Expr) : PA X es (WA X es) := ⟨fun pos pins s _ _ _ I h => h pos pins s I⟩
theorem pw_s (st : Stmt) : PS X st (WS X st) := ⟨fun pins s _ _ _ I h => h pins s I⟩
theorem pw_ss (st : List Stmt) : PSs X st (WSs X st) := ⟨fun pins s _ _ _ I h => h pins s I⟩
theorem pw_i (tg e : Expr) : PI X tg e (WI X tg e) := ⟨fun pins s _ _ _ I h => h pins s I⟩
theorem pw_g (tg : Expr) : PG X tg (WG X tg) := ⟨fun pins s _ _ _ u _ I r h => h pins s u I r⟩
variable {σ : L2.St} {H : Hp}
theorem WE.of {e : Expr} {t : TE} {Q : VK} (h : PE X e t) (q : t σ H Q) : WE X e σ H Q := fun pins s I => h.run pins s σ H Q I q
theorem WT.of {e : Expr} {t : TT} {Q : Bool → Hp → Prop} (h : PT X e t) (q : t σ H Q) : WT X e σ H Q := fun pins s I => h.run pins s σ H Q I q
theorem WW.of {e : Expr} {t : TT} {Q : Bool → Hp → Prop} (h : PW X e t) (q : t σ H Q) : WW X e σ H Q := fun whole pins s I => h.run whole pins s σ H Q I q
theorem WA.of {es : List Expr} {t : TA} {Q : List V → Hp → Prop} (h : PA X es t) (q : t σ H Q) : WA X es σ H Q := fun pos pins s I => h.run pos pins s σ H Q I q
theorem WS.of {st : Stmt} {t : TS} {D : Ends} (h : PS X st t) (q : t D σ H) : WS X st D σ H := fun pins s I => h.run pins s σ H D I q
theorem WSs.of {st : List Stmt} {t : TS} {D : Ends} (h : PSs X st t) (q : t D σ H) : WSs X st D σ H := fun pins s I => h.run pins s σ H D I q
theorem WI.of {tg e : Expr} {t : TI} {R : It → Hp → Prop} (h : PI X tg e t) (q : t σ H R) : WI X tg e σ H R := fun pins s I => h.run pins s σ H R I q
theorem WG.of {tg : Expr} {t : TG} {v : V} {Q : L2.St → Hp → Prop} (h : PG X tg t) (q : t v σ H Q) : WG X tg v σ H Q := fun pins s u I r => h.run pins s σ H v u Q I r q
theorem WE.imp {e : Expr} {Q Q' : VK} (h : WE X e σ H Q) (k : ∀ v H, Q v H → Q' v H) : WE X e σ H Q' := fun pins s I => thn (h pins s I) fun _ _ ⟨v, H, I, r, q⟩ => ⟨v, H, I, r, k v H q⟩
theorem WT.imp {e : Expr} {Q Q' : Bool → Hp → Prop} (h : WT X e σ H Q) (k : ∀ v H, Q v H → Q' v H) : WT X e σ H Q' := fun pins s I => thn (h pins s I) fun _ _ ⟨H, I, q⟩ => ⟨H, I, k _ H q⟩
theorem WA.imp {es : List Expr} {Q Q' : List V → Hp → Prop} (h : WA X es σ H Q) (k : ∀ v H, Q v H → Q' v H) : WA X es σ H Q' := fun pos pins s I => thn (h pos pins s I) fun _ _ ⟨v, H, I, r, q⟩ => ⟨v, H, I, r, k v H q⟩
theorem WG.imp {tg : Expr} {v : V} {Q Q' : L2.St → Hp → Prop} (h : WG X tg v σ H Q) (k : ∀ v H, Q v H → Q' v H) : WG X tg v σ H Q' := fun pins s u I r => thn (h pins s u I r) fun _ _ ⟨v, H, I, q⟩ => ⟨v, H, I, k v H q⟩
theorem WS.imp {st : Stmt} {D D' : Ends} (h : WS X st D σ H) (k1 : ∀ v H, D.nx v H → D'.nx v H) (k2 : ∀ v H, D.rt v H → D'.rt v H) (k3 : ∀ v H, D.bk v H → D'.bk v H) (k4 : ∀ v H, D.ct v H → D'.ct v H) : WS X st D' σ H := fun pins s I => thn (h pins s I) fun f s' q => by
  cases f with
  | next => obtain ⟨a, b, c, d⟩ := q; exact ⟨a, b, c, k1 _ _ d⟩
  | brk => obtain ⟨a, b, c, d⟩ := q; exact ⟨a, b, c, k3 _ _ d⟩
  | cont => obtain ⟨a, b, c, d⟩ := q; exact ⟨a, b, c, k4 _ _ d⟩
  | ret u => obtain ⟨a, b, c, d, e, f⟩ := q; exact ⟨a, b, c, d, e, k2 _ _ f⟩
end

/-! ## the judgements -/
def AE (S : Sig) (X : Cx) (e : Expr) (δ : Sto) (k : Sto → DV → Prop) : Prop :=
  ∀ G σ B H, Rst S G σ B H δ → WE X e σ H fun v H' => ∃ B' δ' d, Ex B B' ∧ Rst S G σ B' H' δ' ∧ Rep S B' v d ∧ k δ' d
def AT (S : Sig) (X : Cx) (e : Expr) (δ : Sto) (k : Sto → Bool → Prop) : Prop :=
  ∀ G σ B H, Rst S G σ B H δ → WT X e σ H fun b H' => ∃ B' δ', Ex B B' ∧ Rst S G σ B' H' δ' ∧ k δ' b
def AW (S : Sig) (X : Cx) (e : Expr) (δ : Sto) (k : Sto → Bool → Prop) : Prop :=
  ∀ G σ B H, Rst S G σ B H δ → WW X e σ H fun b H' => ∃ B' δ', Ex B B' ∧ Rst S G σ B' H' δ' ∧ k δ' b
/-- a new thing of its own -/
structure New (S : Sig) (G : Gh) (σ : L2.St) (B H : Hp) (δ : Sto) (v : V) (o : OV) : Prop where
  ex : ∃ l, v = .ref l ∧ OvAt S B H l o ∧ B l = none ∧ Nn G.H0 l ∧ ∀ (i : Nat) (p : Option Nat) (u : OV), δ[i]? = some (some (AV.own p u)) → σ[i]? ≠ some (some (.ref l))
def AF (S : Sig) (X : Cx) (e : Expr) (δ : Sto) (k : Sto → OV → Prop) : Prop :=
  ∀ G σ B H, Rst S G σ B H δ → WE X e σ H fun v H' => ∃ B' δ' o, Ex B B' ∧ Rst S G σ B' H' δ' ∧ New S G σ B' H' δ' v o ∧ k δ' o
inductive Arg where
  | d (x : DV) | o (i : Nat)
def ArgOk (S : Sig) (σ : L2.St) (B : Hp) (v : V) : Arg → Prop
  | .d x => Rep S B v x
  | .o i => σ[i]? = some (some v)
theorem ArgOk.mono {S : Sig} {σ : L2.St} {B B' : Hp} {v : V} {a : Arg} (e : Ex B B') (h : ArgOk S σ B v a) : ArgOk S σ B' v a := by
  cases a with
  | d x => exact Rep.mono e h
  | o i => exact h
def AA (S : Sig) (X : Cx) (es : List Expr) (δ : Sto) (k : Sto → List Arg → Prop) : Prop :=
  ∀ G σ B H, Rst S G σ B H δ → WA X es σ H fun vs H' => ∃ B' δ' as, Ex B B' ∧ Rst S G σ B' H' δ' ∧ Paired (ArgOk S σ B') vs as ∧ k δ' as
structure AEnds where
  nx : Sto → Prop
  rt : Sto → AV → Prop
  bk : Sto → Prop := fun _ => False
  ct : Sto → Prop := fun _ => False
def RetOk (S : Sig) (G : Gh) (B H : Hp) (v : V) : AV → Prop
  | .imm d => Rep S B v d
  | .own _ o => ∃ l, v = .ref l ∧ OvAt S B H l o ∧ B l = none ∧ Nn G.H0 l
def conc (S : Sig) (G : Gh) (D : AEnds) : Ends where
  nx := fun σ H => ∃ B δ, Rst S G σ B H δ ∧ D.nx δ
  rt := fun v H => ∃ σ B δ r, Rst S G σ B H δ ∧ RetOk S G B H v r ∧ D.rt δ r
  bk := fun σ H => ∃ B δ, Rst S G σ B H δ ∧ D.bk δ
  ct := fun σ H => ∃ B δ, Rst S G σ B H δ ∧ D.ct δ
def DoS (S : Sig) (X : Cx) (st : Stmt) (δ : Sto) (D : AEnds) : Prop := ∀ G σ B H, Rst S G σ B H δ → WS X st (conc S G D) σ H
def Do (S : Sig) (X : Cx) (st : List Stmt) (δ : Sto) (D : AEnds) : Prop := ∀ G σ B H, Rst S G σ B H δ → WSs X st (conc S G D) σ H
/-- storing data to a target: only the slots js change -/
def AG (S : Sig) (X : Cx) (tg : Expr) (js : List Nat) (d : DV) (δ : Sto) (k : Sto → Prop) : Prop :=
  ∀ G σ B H v, Rst S G σ B H δ → Rep S B v d → WG X tg v σ H fun σ' H' => (σ'.length = σ.length ∧ ∀ i, i ∉ js → σ'[i]? = σ[i]?) ∧ ∃ B' δ', Ex B B' ∧ Rst S G σ' B' H' δ' ∧ k δ'
end AX
namespace AX
open PySem PySem.Spec PyProof.Rows L2 Evl
section
variable {S : Sig} {G : Gh} {σ : L2.St} {B B' H H' : Hp} {δ : Sto}
theorem Rst.none0 (R : Rst S G σ B H δ) {a : Addr} (h : Nn H a) : Nn G.H0 a := Classical.byContradiction fun n => R.al a n h
theorem Rst.none1 (R : Rst S G σ B H δ) {a : Addr} (h : H a = none) : Nn G.H0 a := R.none0 (Nn.of h)
/-- the known part and the heap grow, nothing changes -/
theorem Rst.to (R : Rst S G σ B H δ) (eB : Ex B B') (nt : NoTbl B') (eH : Ex B' H') (e : Ex H H') (fr : ∀ a, B' a ≠ none → B a = none → Nn H a) : Rst S G σ B' H' δ where
  exB := R.exB.trans eB
  nt := nt
  ex := eH
  tab := R.tab.ext e
  keep := R.keep.trans (Kp.ex e)
  al := fun a h z => R.al a h fun o ho => z o (e a o ho)
  l0 := R.l0
  fr := fun a h1 h2 => by
    by_cases q : B a = none
    · exact R.none0 (fr a h1 q)
    · exact R.fr a q h2
  len := R.len
  sl := fun i av h => by
    have h1 := R.sl i av h
    cases av with
    | imm d => obtain ⟨v, h2, h3⟩ := h1; exact ⟨v, h2, h3.mono eB⟩
    | own p o =>
      obtain ⟨l, h2, h3, h4, h5⟩ := h1
      refine ⟨l, h2, h3.mono eB ?_, ?_, h5⟩
      · obtain ⟨u, hu, _⟩ := h3.some
        rw [hu, e l u hu]
      · cases q : B' l with
        | none => rfl
        | some u => exact absurd (fr l (by rw [q]; simp) h4) h3.nn
  sep := R.sep
theorem Rst.grow (R : Rst S G σ B H δ) (e : Ex H H') : Rst S G σ B H' δ := R.to (Ex.refl B) R.nt (R.ex.trans e) e fun a h1 h2 => absurd h2 h1
/-- a new object, known from now on -/
theorem Rst.laid (R : Rst S G σ B H δ) {p : Addr} {o : HO} (hp : H p = none) (ho : ∀ ps, o ≠ .tbl ps) : Rst S G σ (upd B p o) (upd H p o) δ := by
  have bp : B p = none := fresh_back R.ex hp
  refine R.to (Ex.new bp) (fun a ps z => ?_) (fun a u z => ?_) (Ex.new hp) fun a h1 h2 => ?_
  · by_cases ha : a = p
    · subst ha; rw [upd_same] at z; exact ho ps (Option.some.inj z)
    · rw [upd_ne ha] at z; exact R.nt a ps z
  · by_cases ha : a = p
    · subst ha; rw [upd_same] at z ⊢; exact z
    · rw [upd_ne ha] at z ⊢; exact R.ex a u z
  · by_cases ha : a = p
    · rw [ha]; exact Nn.of hp
    · rw [upd_ne ha] at h1; exact absurd h2 h1
/-- a new object that is the frame's own -/
theorem Rst.fresh (R : Rst S G σ B H δ) {p : Addr} {o : HO} (hp : H p = none) : Rst S G σ B (upd H p o) δ := R.grow (Ex.new hp)
theorem New.lst (R : Rst S G σ B H δ) {p : Addr} {vs : List V} {ds : List DV} (hp : H p = none) (h : RepL S B vs ds) : New S G σ B (upd H p (.lst vs)) δ (.ref p) (.lst ds) :=
  ⟨p, rfl, ⟨vs, upd_same, h⟩, fresh_back R.ex hp, R.none1 hp, fun i q u hi z => by
    obtain ⟨l, h2, h3, _⟩ := R.sl i _ hi
    rw [h2] at z
    have e : l = p := by injection (Option.some.inj (Option.some.inj z))
    rw [e] at h3
    exact h3.ne hp⟩
theorem New.dct (R : Rst S G σ B H δ) {p : Addr} (hp : H p = none) : New S G σ B (upd H p (.dK [])) δ (.ref p) (.dct []) :=
  ⟨p, rfl, ⟨[], upd_same, .nil⟩, fresh_back R.ex hp, R.none1 hp, fun i q u hi z => by
    obtain ⟨l, h2, h3, _⟩ := R.sl i _ hi
    rw [h2] at z
    have e : l = p := by injection (Option.some.inj (Option.some.inj z))
    rw [e] at h3
    exact h3.ne hp⟩
/-- a new list becomes known -/
theorem New.freeze (R : Rst S G σ B H δ) {v : V} {ds : List DV} (n : New S G σ B H δ v (.lst ds)) : ∃ B', Ex B B' ∧ Rst S G σ B' H δ ∧ Rep S B' v (.lst ds) := by
  obtain ⟨l, rfl, ⟨vs, h1, h2⟩, h3, h4, h5⟩ := n
  refine ⟨upd B l (.lst vs), Ex.new h3, ?_, .lst upd_same (h2.mono (Ex.new h3))⟩
  refine ⟨R.exB.trans (Ex.new h3), fun a ps z => ?_, fun a u z => ?_, R.tab, R.keep, R.al, R.l0, fun a z1 z2 => ?_, R.len, fun i av hi => ?_, R.sep⟩
  · by_cases ha : a = l
    · subst ha; rw [upd_same] at z; cases z
    · rw [upd_ne ha] at z; exact R.nt a ps z
  · by_cases ha : a = l
    · subst ha; rw [upd_same] at z; rw [← z]; exact h1
    · rw [upd_ne ha] at z; exact R.ex a u z
  · by_cases ha : a = l
    · rw [ha]; exact h4
    · rw [upd_ne ha] at z1; exact R.fr a z1 z2
  · have q := R.sl i av hi
    cases av with
    | imm d => obtain ⟨v, q1, q2⟩ := q; exact ⟨v, q1, q2.mono (Ex.new h3)⟩
    | own p o =>
      obtain ⟨l', q1, q2, q3, q4⟩ := q
      refine ⟨l', q1, q2.mono (Ex.new h3) rfl, ?_, q4⟩
      have ne : l' ≠ l := fun e => h5 i p o hi (by rw [q1, e])
      rw [upd_ne ne]; exact q3
theorem set_get {α : Type} {xs : List (Option α)} {i j : Nat} {x : α} {y : α} (h : (xs.set i (some x))[j]? = some (some y)) : (j = i ∧ x = y ∧ i < xs.length) ∨ (j ≠ i ∧ xs[j]? = some (some y)) := by
  by_cases e : i = j
  · subst e
    by_cases hi : i < xs.length
    · rw [List.getElem?_set_self hi] at h
      cases h
      exact .inl ⟨rfl, rfl, hi⟩
    · rw [List.getElem?_eq_none (by simpa using hi)] at h; cases h
  · rw [List.getElem?_set_ne e] at h
    exact .inr ⟨fun z => e z.symm, h⟩
/-- a name gets data -/
theorem Rst.put (R : Rst S G σ B H δ) {i : Nat} {v : V} {d : DV} (hi : i < δ.length) (h : Rep S B v d) : Rst S G (σ.set i (some v)) B H (δ.set i (some (.imm d))) := by
  refine ⟨R.exB, R.nt, R.ex, R.tab, R.keep, R.al, R.l0, R.fr, by simp [R.len], fun j av hj => ?_, fun j1 j2 l p o p' o' a1 a2 a3 a4 => ?_⟩
  · rcases set_get hj with ⟨rfl, rfl, _⟩ | ⟨ne, hj⟩
    · exact ⟨v, by rw [List.getElem?_set_self (by rw [R.len]; exact hi)], h⟩
    · have q := R.sl j av hj
      cases av with
      | imm d => obtain ⟨v, q1, q2⟩ := q; exact ⟨v, by rw [List.getElem?_set_ne (Ne.symm ne)]; exact q1, q2⟩
      | own p o => obtain ⟨l', q1, q2, q3, q4⟩ := q; exact ⟨l', by rw [List.getElem?_set_ne (Ne.symm ne)]; exact q1, q2, q3, q4⟩
  · rcases set_get a1 with ⟨_, z, _⟩ | ⟨n1, a1⟩
    · cases z
    rcases set_get a2 with ⟨_, z, _⟩ | ⟨n2, a2⟩
    · cases z
    rw [List.getElem?_set_ne (Ne.symm n1)] at a3
    rw [List.getElem?_set_ne (Ne.symm n2)] at a4
    exact R.sep j1 j2 l p o p' o' a1 a2 a3 a4
/-- a name gets a new thing -/
theorem Rst.putF (R : Rst S G σ B H δ) {i : Nat} {v : V} {o : OV} (hi : i < δ.length) (n : New S G σ B H δ v o) : Rst S G (σ.set i (some v)) B H (δ.set i (some (.own none o))) := by
  obtain ⟨l, rfl, h1, h3, h4, h5⟩ := n
  have nl : ∀ j p u, δ[j]? = some (some (AV.own p u)) → ∀ l', σ[j]? = some (some (V.ref l')) → l' ≠ l := fun j p u hj l' q z => h5 j p u hj (by rw [q, z])
  refine ⟨R.exB, R.nt, R.ex, R.tab, R.keep, R.al, R.l0, R.fr, by simp [R.len], fun j av hj => ?_, fun j1 j2 l1 p o1 p' o2 a1 a2 a3 a4 => ?_⟩
  · rcases set_get hj with ⟨rfl, rfl, _⟩ | ⟨ne, hj⟩
    · exact ⟨l, by rw [List.getElem?_set_self (by rw [R.len]; exact hi)], h1, h3, h4⟩
    · have q := R.sl j av hj
      cases av with
      | imm d => obtain ⟨v, q1, q2⟩ := q; exact ⟨v, by rw [List.getElem?_set_ne (Ne.symm ne)]; exact q1, q2⟩
      | own p o => obtain ⟨l', q1, q2, q3, q4⟩ := q; exact ⟨l', by rw [List.getElem?_set_ne (Ne.symm ne)]; exact q1, q2, q3, q4⟩
  · rcases set_get a1 with ⟨e1, _, _⟩ | ⟨n1, a1⟩
    · rcases set_get a2 with ⟨e2, _, _⟩ | ⟨n2, a2⟩
      · rw [e1, e2]
      · exfalso
        rw [e1, List.getElem?_set_self (by rw [R.len]; exact hi)] at a3
        rw [List.getElem?_set_ne (Ne.symm n2)] at a4
        have e : l = l1 := by injection (Option.some.inj (Option.some.inj a3))
        exact nl j2 _ _ a2 l1 a4 e.symm
    · rw [List.getElem?_set_ne (Ne.symm n1)] at a3
      rcases set_get a2 with ⟨e2, _, _⟩ | ⟨n2, a2⟩
      · exfalso
        rw [e2, List.getElem?_set_self (by rw [R.len]; exact hi)] at a4
        have e : l = l1 := by injection (Option.some.inj (Option.some.inj a4))
        exact nl j1 _ _ a1 l1 a3 e.symm
      · rw [List.getElem?_set_ne (Ne.symm n2)] at a4
        exact R.sep j1 j2 l1 p o1 p' o2 a1 a2 a3 a4
/-- an own thing changes -/
theorem Rst.write (R : Rst S G σ B H δ) {i : Nat} {p : Option Nat} {o o' : OV} {l : Addr} {u : HO} (hi : δ[i]? = some (some (.own p o))) (hl : σ[i]? = some (some (.ref l))) (hu : ∀ ps, u ≠ .tbl ps) (h : OvAt S B (upd H l u) l o') :
    Rst S G σ B (upd H l u) (δ.set i (some (.own p o'))) := by
  obtain ⟨l', q1, q2, q3, q4⟩ := R.sl i _ hi
  have e : l' = l := by
    have := q1.symm.trans hl
    injection (Option.some.inj (Option.some.inj this))
  subst e
  have hil : i < δ.length := (List.getElem?_eq_some_iff.mp hi).1
  have nl : ∀ b x, B b = some x → b ≠ l' := fun b x z e => by rw [e, q3] at z; cases z
  have tl : ∀ b ps, H b = some (.tbl ps) → b ≠ l' := fun b ps z e => by
    obtain ⟨u, hu, hn⟩ := q2.some
    rw [e, hu] at z
    exact hn ps (Option.some.inj z)
  refine ⟨R.exB, R.nt, fun b x z => ?_, fun t ht => ?_, fun a x hx hn z => ?_, fun a z1 z2 => ?_, R.l0, R.fr, by simp [R.len], fun j av hj => ?_, fun j1 j2 l1 p1 o1 p2 o2 a1 a2 a3 a4 => ?_⟩
  · rw [upd_ne (nl b x z)]; exact R.ex b x z
  · obtain ⟨ps, h1, h2, h3⟩ := R.tab t ht
    refine ⟨ps, by rw [upd_ne (tl _ _ h1)]; exact h1, h2, fun pos cv hc => ?_⟩
    obtain ⟨c, e1, e2⟩ := h3 pos cv hc
    refine ⟨c, e1, ?_⟩
    have : c ≠ l' := fun e => by
      obtain ⟨u, hu, hn⟩ := q2.some
      rw [e, hu] at e2
      cases o with
      | lst ds => obtain ⟨vs, g, _⟩ := q2; rw [hu] at g; cases g; unfold LamX.CodeO at e2; cases e2
      | dct kvs => obtain ⟨vs, g, _⟩ := q2; rw [hu] at g; cases g; unfold LamX.CodeO at e2; cases e2
      | obj t fs => obtain ⟨dx, vs, g, _⟩ := q2; rw [hu] at g; cases g; unfold LamX.CodeO at e2; cases e2
    rw [upd_ne this]; exact e2
  · have : a ≠ l' := fun e => by
      subst e
      cases p with
      | none =>
        obtain ⟨ps, ep⟩ := (show Nn G.H0 a from q4) x z
        exact hn ps ep
      | some j => exact hx (List.mem_of_getElem? q4)
    rw [upd_ne this]; exact R.keep a x hx hn z
  · by_cases e : a = l'
    · subst e
      obtain ⟨ps, ep⟩ := z2 u upd_same
      exact hu ps ep
    · exact R.al a z1 fun o ho => z2 o (by rw [upd_ne e]; exact ho)
  · rcases set_get hj with ⟨rfl, rfl, _⟩ | ⟨ne, hj⟩
    · exact ⟨l', hl, h, q3, q4⟩
    · have q := R.sl j av hj
      cases av with
      | imm d => exact q
      | own p1 o1 =>
        obtain ⟨l1, g1, g2, g3, g4⟩ := q
        have : l1 ≠ l' := fun e => ne (R.sep j i l' p1 o1 p o hj hi (by rw [← e]; exact g1) hl)
        exact ⟨l1, g1, g2.mono (Ex.refl B) (upd_ne this), g3, g4⟩
  · have get : ∀ {j : Nat} {p3 : Option Nat} {o3 : OV}, (δ.set i (some (AV.own p o')))[j]? = some (some (AV.own p3 o3)) → ∃ p4 o4, δ[j]? = some (some (AV.own p4 o4)) := fun {j p3 o3} hj => by
      rcases set_get hj with ⟨rfl, _, _⟩ | ⟨_, hj⟩
      · exact ⟨p, o, hi⟩
      · exact ⟨_, _, hj⟩
    obtain ⟨_, _, b1⟩ := get a1
    obtain ⟨_, _, b2⟩ := get a2
    exact R.sep j1 j2 l1 _ _ _ _ b1 b2 a3 a4
end
end AX
namespace AX
open PySem PySem.Spec PyProof.Rows L2 Evl
/-- an operation on two data that makes nothing: its answer is z -/
def P2 (S : Sig) (r : R2) (x y z : DV) : Prop := ∀ (B H : Hp) (v w : V) (Q : VK), Ex B H → Rep S B v x → Rep S B w y → (∀ u, Rep S B u z → Q u H) → r v w H Q
/-- .. that makes a new list -/
def P2F (S : Sig) (r : R2) (x y : DV) (o : OV) : Prop := ∀ (G : Gh) (σ : L2.St) (B H : Hp) (δ : Sto) (v w : V) (Q : VK), Rst S G σ B H δ → Rep S B v x → Rep S B w y → (∀ u H', Rst S G σ B H' δ → New S G σ B H' δ u o → Q u H') → r v w H Q
/-- .. that makes new data -/
def P2N (S : Sig) (r : R2) (x y z : DV) : Prop := ∀ (G : Gh) (σ : L2.St) (B H : Hp) (δ : Sto) (v w : V) (Q : VK), Rst S G σ B H δ → Rep S B v x → Rep S B w y → (∀ u B' H', Ex B B' → Rst S G σ B' H' δ → Rep S B' u z → Q u H') → r v w H Q
def P1 (S : Sig) (r : V → Hp → VK → Prop) (x z : DV) : Prop := ∀ (B H : Hp) (v : V) (Q : VK), Ex B H → Rep S B v x → (∀ u, Rep S B u z → Q u H) → r v H Q
def PC1 (S : Sig) (r : List V → Hp → VK → Prop) (xs : List DV) (z : DV) : Prop := ∀ (B H : Hp) (vs : List V) (Q : VK), Ex B H → RepL S B vs xs → (∀ u, Rep S B u z → Q u H) → r vs H Q
def PCF (S : Sig) (r : List V → Hp → VK → Prop) (xs : List DV) (o : OV) : Prop := ∀ (G : Gh) (σ : L2.St) (B H : Hp) (δ : Sto) (vs : List V) (Q : VK), Rst S G σ B H δ → RepL S B vs xs → (∀ u H', Rst S G σ B H' δ → New S G σ B H' δ u o → Q u H') → r vs H Q
def PCN (S : Sig) (r : List V → Hp → VK → Prop) (xs : List DV) (z : DV) : Prop := ∀ (G : Gh) (σ : L2.St) (B H : Hp) (δ : Sto) (vs : List V) (Q : VK), Rst S G σ B H δ → RepL S B vs xs → (∀ u B' H', Ex B B' → Rst S G σ B' H' δ → Rep S B' u z → Q u H') → r vs H Q
theorem P2.n {S : Sig} {r : R2} {x y z : DV} (h : P2 S r x y z) : P2N S r x y z := fun G σ B H δ v w Q R rx ry q => h B H v w Q R.ex rx ry fun u ru => q u B H (Ex.refl B) R ru
theorem PC1.n {S : Sig} {r : List V → Hp → VK → Prop} {xs : List DV} {z : DV} (h : PC1 S r xs z) : PCN S r xs z := fun G σ B H δ vs Q R rx q => h B H vs Q R.ex rx fun u ru => q u B H (Ex.refl B) R ru

section
variable {S : Sig} {X : Cx} {δ : Sto} {a b c e : Expr} {es rest : List Expr} {pos : Pos} {k : Sto → DV → Prop} {kt : Sto → Bool → Prop} {kf : Sto → OV → Prop} {ka : Sto → List Arg → Prop}
theorem AE.imp {k' : Sto → DV → Prop} (h : AE S X e δ k) (hk : ∀ δ d, k δ d → k' δ d) : AE S X e δ k' := fun G σ B H R => (h G σ B H R).imp fun v H' ⟨B', δ', d, e1, R1, r, q⟩ => ⟨B', δ', d, e1, R1, r, hk _ _ q⟩
theorem AT.imp {k' : Sto → Bool → Prop} (h : AT S X e δ kt) (hk : ∀ δ d, kt δ d → k' δ d) : AT S X e δ k' := fun G σ B H R => (h G σ B H R).imp fun v H' ⟨B', δ', e1, R1, q⟩ => ⟨B', δ', e1, R1, hk _ _ q⟩
theorem AF.imp {k' : Sto → OV → Prop} (h : AF S X e δ kf) (hk : ∀ δ d, kf δ d → k' δ d) : AF S X e δ k' := fun G σ B H R => (h G σ B H R).imp fun v H' ⟨B', δ', d, e1, R1, r, q⟩ => ⟨B', δ', d, e1, R1, r, hk _ _ q⟩
/-! ### names, constants -/
theorem AE.var (i : Nat) {x : Str} {d : DV} (hv : δ[i]? = some (some (.imm d))) (h : k δ d) (hN : X.N[i]? = some x := by rfl) (hs : Vis X.env.scope x := by first | exact Or.inl rfl | exact Or.inr (Or.inl rfl) | exact Or.inr (Or.inr rfl))
    (hd : (x == ("__debug__" : Str)) = false := by decide) (hcd : (x == ("__classdict__" : Str)) = false := by decide) : AE S X (.Name x pos) δ k := fun G σ B H R => by
  obtain ⟨v, e1, r⟩ := R.sl i _ hv
  exact WE.of (pe_var hN hs hd hcd) ⟨v, e1, B, δ, d, Ex.refl B, R, r, h⟩
theorem AE.int {i : Int} {j : Nat} (h : k δ (.int i)) : AE S X (.Constant (.int i) j pos) δ k := fun G σ B H R => WE.of pe_int ⟨B, δ, _, Ex.refl B, R, .int i, h⟩
theorem AE.bl {i : Bool} {j : Nat} (h : k δ (.bl i)) : AE S X (.Constant (.bool i) j pos) δ k := fun G σ B H R => WE.of pe_bl ⟨B, δ, _, Ex.refl B, R, .bl i, h⟩
theorem AE.non {j : Nat} (h : k δ .non) : AE S X (.Constant .none j pos) δ k := fun G σ B H R => WE.of pe_non ⟨B, δ, _, Ex.refl B, R, .non, h⟩
theorem AE.str {x : Str} {j : Nat} (h : k δ (.str x)) : AE S X (.Constant (.str x) j pos) δ k := fun G σ B H R => WE.of pe_str ⟨B, δ, _, Ex.refl B, R, .str x, h⟩
/-- a built-in class as a value -/
theorem AE.ty {x : Str} {T : String} (hm : X.mg x = none) (hv : bootBuiltins x = some (.type T)) (h : k δ (.raw (.ty T))) (hg : Gl X x := by rfl) (hn : x ≠ "__name__" := by decide) (hd : (x == ("__debug__" : Str)) = false := by decide) : AE S X (.Name x pos) δ k :=
  fun G σ B H R => WE.of (pe_bltn (v := .ty T) hg hm hv rfl hn hd) ⟨B, δ, _, Ex.refl B, R, .raw _, h⟩
/-- a module's thing as a value -/
theorem AE.glob {x : Str} {v : V} {u : Value} (hm : X.mg x = some u) (r : RelV v u) (h : k δ (.raw v)) (hg : Gl X x := by rfl) (hd : (x == ("__debug__" : Str)) = false := by decide) : AE S X (.Name x pos) δ k :=
  fun G σ B H R => WE.of (pe_glob hg hm r hd) ⟨B, δ, _, Ex.refl B, R, .raw _, h⟩
/-! ### operators -/
theorem AE.binN {op : Operator} {r : R2} (ho : OpR X (binaryOp op) r) (ha : AE S X a δ fun δ1 x => AE S X b δ1 fun δ2 y => ∃ z, P2N S r x y z ∧ k δ2 z) : AE S X (.BinOp a op b pos) δ k := fun G σ B H R =>
  WE.of (pe_op ho (pw_e a) (pw_e b)) ((ha G σ B H R).imp fun v H1 ⟨B1, δ1, x, e1, R1, r1, h1⟩ => (h1 G σ B1 H1 R1).imp fun w H2 ⟨B2, δ2, y, e2, R2, r2, z, hp, hk⟩ =>
    hp G σ B2 H2 δ2 v w _ R2 (r1.mono e2) r2 fun u B3 H3 e3 R3 ru => ⟨B3, δ2, z, (e1.trans e2).trans e3, R3, ru, hk⟩)
theorem AE.bin {op : Operator} {r : R2} (ho : OpR X (binaryOp op) r) (ha : AE S X a δ fun δ1 x => AE S X b δ1 fun δ2 y => ∃ z, P2 S r x y z ∧ k δ2 z) : AE S X (.BinOp a op b pos) δ k :=
  AE.binN ho (ha.imp fun _ _ h => h.imp fun _ _ ⟨z, p, q⟩ => ⟨z, p.n, q⟩)
theorem AF.bin {op : Operator} {r : R2} (ho : OpR X (binaryOp op) r) (ha : AE S X a δ fun δ1 x => AE S X b δ1 fun δ2 y => ∃ z, P2F S r x y z ∧ kf δ2 z) : AF S X (.BinOp a op b pos) δ kf := fun G σ B H R =>
  WE.of (pe_op ho (pw_e a) (pw_e b)) ((ha G σ B H R).imp fun v H1 ⟨B1, δ1, x, e1, R1, r1, h1⟩ => (h1 G σ B1 H1 R1).imp fun w H2 ⟨B2, δ2, y, e2, R2, r2, z, hp, hk⟩ =>
    hp G σ B2 H2 δ2 v w _ R2 (r1.mono e2) r2 fun u H3 R3 n => ⟨B2, δ2, z, e1.trans e2, R3, n, hk⟩)
theorem AE.cmp {op : CmpOp} {r : R2} (ho : OpR X (compareOp op) r) (ha : AE S X a δ fun δ1 x => AE S X b δ1 fun δ2 y => ∃ z, P2 S r x y z ∧ k δ2 z) (hm : behindInMarks op b = false := by first | exact nomark _ | rfl) : AE S X (.Compare a [op] [b] pos) δ k := fun G σ B H R =>
  WE.of (pe_cmpR ho (pw_e a) (pw_e b) hm) ((ha G σ B H R).imp fun v H1 ⟨B1, δ1, x, e1, R1, r1, h1⟩ => (h1 G σ B1 H1 R1).imp fun w H2 ⟨B2, δ2, y, e2, R2, r2, z, hp, hk⟩ =>
    hp B2 H2 v w _ R2.ex (r1.mono e2) r2 fun u ru => ⟨B2, δ2, z, e1.trans e2, R2, ru, hk⟩)
theorem AE.un {op : UnaryOp} {r : V → Hp → VK → Prop} (ho : UnR X (unaryOp op) r) (ha : AE S X a δ fun δ1 x => ∃ z, P1 S r x z ∧ k δ1 z) : AE S X (.UnaryOp op a pos) δ k := fun G σ B H R =>
  WE.of (pe_un ho (pw_e a)) ((ha G σ B H R).imp fun v H1 ⟨B1, δ1, x, e1, R1, r1, z, hp, hk⟩ => hp B1 H1 v _ R1.ex r1 fun u ru => ⟨B1, δ1, z, e1, R1, ru, hk⟩)
theorem AE.sub {r : R2} (hr : IxR X r) (ha : AE S X a δ fun δ1 x => AE S X b δ1 fun δ2 y => ∃ z, P2 S r x y z ∧ k δ2 z) (hs : PlainIx b := by exact fun _ _ => rfl) : AE S X (.Subscript a b pos) δ k := fun G σ B H R =>
  WE.of (pe_ix hr (pw_e a) (pw_e b) hs) ((ha G σ B H R).imp fun v H1 ⟨B1, δ1, x, e1, R1, r1, h1⟩ => (h1 G σ B1 H1 R1).imp fun w H2 ⟨B2, δ2, y, e2, R2, r2, z, hp, hk⟩ =>
    hp B2 H2 v w _ R2.ex (r1.mono e2) r2 fun u ru => ⟨B2, δ2, z, e1.trans e2, R2, ru, hk⟩)
/-! ### tests -/
theorem AT.cmp {op : CmpOp} {r : R2} (ho : OpR X (compareOp op) r) (ha : AE S X a δ fun δ1 x => AE S X b δ1 fun δ2 y => ∃ z, P2 S r x y (.bl z) ∧ kt δ2 z) (hm : behindInMarks op b = false := by first | exact nomark _ | rfl) : AT S X (.Compare a [op] [b] pos) δ kt := fun G σ B H R =>
  WT.of (pt_cmpR ho (pw_e a) (pw_e b) hm) ((ha G σ B H R).imp fun v H1 ⟨B1, δ1, x, e1, R1, r1, h1⟩ => (h1 G σ B1 H1 R1).imp fun w H2 ⟨B2, δ2, y, e2, R2, r2, z, hp, hk⟩ =>
    hp B2 H2 v w _ R2.ex (r1.mono e2) r2 fun u ru => ⟨z, ru.bl_inv, B2, δ2, e1.trans e2, R2, hk⟩)
theorem AT.val (ha : AE S X e δ fun δ1 x => ∃ z, x = .bl z ∧ kt δ1 z) (he : ∀ whole, isTrue e X.env whole = (do let v ← whole; standAt e.pos; holding [v] (truthy v)) := by intro _; rfl) : AT S X e δ kt := fun G σ B H R =>
  WT.of (pt_val (pw_e e) he) ((ha G σ B H R).imp fun v H1 ⟨B1, δ1, x, e1, R1, r1, z, hx, hk⟩ => ⟨z, (by rw [hx] at r1; exact r1.bl_inv), B1, δ1, e1, R1, hk⟩)
theorem AT.not (ha : AT S X a δ fun δ1 x => kt δ1 (!x)) : AT S X (.UnaryOp .Not a pos) δ kt := fun G σ B H R => WT.of (pt_not (pw_t a)) ((ha G σ B H R).imp fun v H1 h => h)
theorem AT.w (h : AW S X e δ kt) : AT S X e δ kt := fun G σ B H R => WT.of (pw_w e).pt (h G σ B H R)
theorem AW.and1 (ha : AT S X a δ kt) : AW S X (.BoolOp .And [a] pos) δ kt := fun G σ B H R => WW.of (pw_and1 (pw_t a)) (ha G σ B H R)
theorem AW.or1 (ha : AT S X a δ kt) : AW S X (.BoolOp .Or [a] pos) δ kt := fun G σ B H R => WW.of (pw_or1 (pw_t a)) (ha G σ B H R)
theorem AW.and (ha : AT S X a δ fun δ1 x => if x = true then AW S X (.BoolOp .And (b :: rest) pos) δ1 kt else kt δ1 false) : AW S X (.BoolOp .And (a :: b :: rest) pos) δ kt := fun G σ B H R =>
  WW.of (pw_and (pw_t a) (pw_w _)) ((ha G σ B H R).imp fun v H1 ⟨B1, δ1, e1, R1, h1⟩ => by
    cases v with
    | true =>
      rw [if_pos rfl] at h1 ⊢
      refine fun whole pins s I => ?_
      exact thn (h1 G σ B1 H1 R1 whole pins s I) fun _ _ ⟨H2, I2, B2, δ2, e2, R2, q⟩ => ⟨H2, I2, B2, δ2, e1.trans e2, R2, q⟩
    | false =>
      rw [if_neg Bool.false_ne_true] at h1 ⊢
      exact ⟨B1, δ1, e1, R1, h1⟩)
theorem AW.or (ha : AT S X a δ fun δ1 x => if x = true then kt δ1 true else AW S X (.BoolOp .Or (b :: rest) pos) δ1 kt) : AW S X (.BoolOp .Or (a :: b :: rest) pos) δ kt := fun G σ B H R =>
  WW.of (pw_or (pw_t a) (pw_w _)) ((ha G σ B H R).imp fun v H1 ⟨B1, δ1, e1, R1, h1⟩ => by
    cases v with
    | false =>
      rw [if_neg Bool.false_ne_true] at h1 ⊢
      refine fun whole pins s I => ?_
      exact thn (h1 G σ B1 H1 R1 whole pins s I) fun _ _ ⟨H2, I2, B2, δ2, e2, R2, q⟩ => ⟨H2, I2, B2, δ2, e1.trans e2, R2, q⟩
    | true =>
      rw [if_pos rfl] at h1 ⊢
      exact ⟨B1, δ1, e1, R1, h1⟩)
/-! ### bools as values -/
theorem AE.one {op : BoolOp} (ha : AE S X a δ k) : AE S X (.BoolOp op [a] pos) δ k := fun G σ B H R => WE.of (pe_one (pw_e a)) (ha G σ B H R)
theorem AE.and (ha : AE S X a δ fun δ1 x => ∃ z, x = .bl z ∧ if z = true then AE S X (.BoolOp .And (b :: rest) pos) δ1 k else k δ1 (.bl false)) : AE S X (.BoolOp .And (a :: b :: rest) pos) δ k := fun G σ B H R =>
  WE.of (pe_and (pw_e a) (pw_e _)) ((ha G σ B H R).imp fun v H1 ⟨B1, δ1, x, e1, R1, r1, z, hx, h1⟩ => by
    subst hx
    refine ⟨z, r1.bl_inv, ?_⟩
    cases z with
    | true =>
      rw [if_pos rfl] at h1 ⊢
      exact (h1 G σ B1 H1 R1).imp fun w H2 ⟨B2, δ2, d, e2, R2, r2, q⟩ => ⟨B2, δ2, d, e1.trans e2, R2, r2, q⟩
    | false =>
      rw [if_neg Bool.false_ne_true] at h1 ⊢
      exact ⟨B1, δ1, _, e1, R1, .bl false, h1⟩)
theorem AE.or (ha : AE S X a δ fun δ1 x => ∃ z, x = .bl z ∧ if z = true then k δ1 (.bl true) else AE S X (.BoolOp .Or (b :: rest) pos) δ1 k) : AE S X (.BoolOp .Or (a :: b :: rest) pos) δ k := fun G σ B H R =>
  WE.of (pe_or (pw_e a) (pw_e _)) ((ha G σ B H R).imp fun v H1 ⟨B1, δ1, x, e1, R1, r1, z, hx, h1⟩ => by
    subst hx
    refine ⟨z, r1.bl_inv, ?_⟩
    cases z with
    | false =>
      rw [if_neg Bool.false_ne_true] at h1 ⊢
      exact (h1 G σ B1 H1 R1).imp fun w H2 ⟨B2, δ2, d, e2, R2, r2, q⟩ => ⟨B2, δ2, d, e1.trans e2, R2, r2, q⟩
    | true =>
      rw [if_pos rfl] at h1 ⊢
      exact ⟨B1, δ1, _, e1, R1, .bl true, h1⟩)
theorem AE.not (ha : AE S X a δ fun δ1 x => ∃ z, x = .bl z ∧ k δ1 (.bl (!z))) : AE S X (.UnaryOp .Not a pos) δ k := fun G σ B H R =>
  WE.of (pe_not (pw_e a)) ((ha G σ B H R).imp fun v H1 ⟨B1, δ1, x, e1, R1, r1, z, hx, h1⟩ => by
    subst hx
    exact ⟨z, r1.bl_inv, B1, δ1, _, e1, R1, .bl _, h1⟩)
theorem AE.ite (hc : AT S X c δ fun δ1 z => if z = true then AE S X a δ1 k else AE S X b δ1 k) : AE S X (.IfExp c a b pos) δ k := fun G σ B H R =>
  WE.of (pe_ifExp (pw_t c) (pw_e a) (pw_e b)) ((hc G σ B H R).imp fun z H1 ⟨B1, δ1, e1, R1, h1⟩ => by
    cases z with
    | true =>
      rw [if_pos rfl] at h1 ⊢
      exact (h1 G σ B1 H1 R1).imp fun w H2 ⟨B2, δ2, d, e2, R2, r2, q⟩ => ⟨B2, δ2, d, e1.trans e2, R2, r2, q⟩
    | false =>
      rw [if_neg Bool.false_ne_true] at h1 ⊢
      exact (h1 G σ B1 H1 R1).imp fun w H2 ⟨B2, δ2, d, e2, R2, r2, q⟩ => ⟨B2, δ2, d, e1.trans e2, R2, r2, q⟩)
/-! ### displays, arguments -/
theorem AA.nil (h : ka δ []) : AA S X [] δ ka := fun G σ B H R => WA.of pa_nil ⟨B, δ, [], Ex.refl B, R, .nil, h⟩
theorem AA.cons (he : AE S X e δ fun δ1 d => AA S X es δ1 fun δ2 as => ka δ2 (.d d :: as)) (hst : starEach (e :: es) X.env = (false, eval e X.env) :: starEach es X.env := by rfl) : AA S X (e :: es) δ ka := fun G σ B H R =>
  WA.of (pa_cons (pw_e e) (pw_a es) hst) ((he G σ B H R).imp fun v H1 ⟨B1, δ1, d, e1, R1, r1, h1⟩ => (h1 G σ B1 H1 R1).imp fun vs H2 ⟨B2, δ2, as, e2, R2, r2, q⟩ => ⟨B2, δ2, _, e1.trans e2, R2, .cons (b := Arg.d d) (show ArgOk S σ B2 v (.d d) from r1.mono e2) r2, q⟩)
/-- an own thing handed on -/
theorem AA.own (i : Nat) {x : Str} {p : Option Nat} {o : OV} {xpos : Pos} (hv : δ[i]? = some (some (.own p o))) (he : AA S X es δ fun δ2 as => ka δ2 (.o i :: as)) (hN : X.N[i]? = some x := by rfl) (hs : Vis X.env.scope x := by first | exact Or.inl rfl | exact Or.inr (Or.inl rfl) | exact Or.inr (Or.inr rfl))
    (hd : (x == ("__debug__" : Str)) = false := by decide) (hcd : (x == ("__classdict__" : Str)) = false := by decide) (hst : starEach (.Name x xpos :: es) X.env = (false, eval (.Name x xpos) X.env) :: starEach es X.env := by rfl) : AA S X (.Name x xpos :: es) δ ka := fun G σ B H R => by
  obtain ⟨l, e1, r⟩ := R.sl i _ hv
  exact WA.of (pa_cons (pe_var hN hs hd hcd) (pw_a es) hst) ⟨.ref l, e1, (he G σ B H R).imp fun vs H2 ⟨B2, δ2, as, e2, R2, r2, q⟩ => ⟨B2, δ2, _, e2, R2, .cons (b := Arg.o i) (show ArgOk S σ B2 (.ref l) (.o i) from e1) r2, q⟩⟩
/-- all arguments are data -/
theorem args_d {σ : L2.St} {B : Hp} : ∀ {vs : List V} {ds : List DV}, Paired (ArgOk S σ B) vs (ds.map Arg.d) → RepL S B vs ds
  | [], [], _ => .nil
  | v :: vs, d :: ds, .cons h r => .cons h (args_d r)
theorem AE.tup {x1 : Nat} (h : AA S X es δ fun δ1 as => ∃ ds, as = ds.map Arg.d ∧ ds.length ≤ 100000 ∧ k δ1 (.tup ds)) : AE S X (.Tuple es x1 pos) δ k := fun G σ B H R =>
  WE.of (pe_tup (pw_a es)) ((h G σ B H R).imp fun vs H1 ⟨B1, δ1, as, e1, R1, r1, ds, ha, hl, hk⟩ => by
    subst ha
    have r2 := args_d r1
    exact ⟨sz_of (by rw [r2.length]; exact hl), fun p hp => ⟨upd B1 p (.tup vs), δ1, _, e1.trans (Ex.new (fresh_back R1.ex hp)), R1.laid hp (fun _ z => by cases z), .tup (st_of upd_same) (r2.mono (Ex.new (fresh_back R1.ex hp))), hk⟩⟩)
theorem AF.lst (h : AA S X es δ fun δ1 as => ∃ ds, as = ds.map Arg.d ∧ ds.length ≤ 100000 ∧ kf δ1 (.lst ds)) : AF S X (.List es pos) δ kf := fun G σ B H R =>
  WE.of (pe_lst (pw_a es)) ((h G σ B H R).imp fun vs H1 ⟨B1, δ1, as, e1, R1, r1, ds, ha, hl, hk⟩ => by
    subst ha
    have r2 := args_d r1
    exact ⟨sz_of (by rw [r2.length]; exact hl), fun p hp => ⟨B1, δ1, _, e1, R1.fresh hp, New.lst R1 hp r2, hk⟩⟩)
/-- a new list taken as data -/
theorem AF.imm (h : AF S X e δ fun δ1 o => ∃ ds, o = .lst ds ∧ k δ1 (.lst ds)) : AE S X e δ k := fun G σ B H R => (h G σ B H R).imp fun v H1 ⟨B1, δ1, o, e1, R1, n, ds, ho, hk⟩ => by
  subst ho
  obtain ⟨B2, e2, R2, r⟩ := n.freeze R1
  exact ⟨B2, δ1, _, e1.trans e2, R2, r, hk⟩
theorem AE.lst (h : AA S X es δ fun δ1 as => ∃ ds, as = ds.map Arg.d ∧ ds.length ≤ 100000 ∧ k δ1 (.lst ds)) : AE S X (.List es pos) δ k := by
  refine AF.imm (AF.lst ?_)
  exact fun G σ B H R => (h G σ B H R).imp fun vs H1 ⟨B1, δ1, as, e1, R1, r1, ds, ha, hl, hk⟩ => ⟨B1, δ1, as, e1, R1, r1, ds, ha, hl, ds, rfl, hk⟩
/-! ### built-ins by name -/
theorem AE.bi {x : Str} {id : String} {r : List V → Hp → VK → Prop} {p : Pos} (hc : CallR X (.builtin id) r) (hm : X.mg x = none) (hv : bootBuiltins x = some (.builtin id)) (ha : AA S X (e :: es) δ fun δ1 as => ∃ ds z, as = ds.map Arg.d ∧ PCN S r ds z ∧ k δ1 z) (hg : Gl X x := by rfl)
    (hn : x ≠ "__name__" := by decide) (hdb : (x == ("__debug__" : Str)) = false := by decide) (he : starEach (e :: es) X.env = (false, eval e X.env) :: starEach es X.env := by rfl) (hpl : (backTo pos (starEach es X.env)).any (·.1) = false := by rfl) : AE S X (.Call (.Name x p) (e :: es) [] pos) δ k := fun G σ B H R =>
  WE.of (pe_callB hc hg hm hv (pw_a _) hn hdb he hpl) ((ha G σ B H R).imp fun vs H1 ⟨B1, δ1, as, e1, R1, r1, ds, z, ha, hp, hk⟩ => by
    subst ha
    exact hp G σ B1 H1 δ1 vs _ R1 (args_d r1) fun u B2 H2 e2 R2 ru => ⟨B2, δ1, z, e1.trans e2, R2, ru, hk⟩)
theorem AE.bt {x : Str} {T : String} {r : List V → Hp → VK → Prop} {p : Pos} (hc : CallR X (.type T) r) (hm : X.mg x = none) (hv : bootBuiltins x = some (.type T)) (ha : AA S X (e :: es) δ fun δ1 as => ∃ ds z, as = ds.map Arg.d ∧ PCN S r ds z ∧ k δ1 z) (hg : Gl X x := by rfl)
    (hn : x ≠ "__name__" := by decide) (hdb : (x == ("__debug__" : Str)) = false := by decide) (he : starEach (e :: es) X.env = (false, eval e X.env) :: starEach es X.env := by rfl) (hpl : (backTo pos (starEach es X.env)).any (·.1) = false := by rfl) : AE S X (.Call (.Name x p) (e :: es) [] pos) δ k := fun G σ B H R =>
  WE.of (pe_callTy hc hg hm hv (pw_a _) hn hdb he hpl) ((ha G σ B H R).imp fun vs H1 ⟨B1, δ1, as, e1, R1, r1, ds, z, ha, hp, hk⟩ => by
    subst ha
    exact hp G σ B1 H1 δ1 vs _ R1 (args_d r1) fun u B2 H2 e2 R2 ru => ⟨B2, δ1, z, e1.trans e2, R2, ru, hk⟩)
theorem AF.bt {x : Str} {T : String} {r : List V → Hp → VK → Prop} {p : Pos} (hc : CallR X (.type T) r) (hm : X.mg x = none) (hv : bootBuiltins x = some (.type T)) (ha : AA S X (e :: es) δ fun δ1 as => ∃ ds z, as = ds.map Arg.d ∧ PCF S r ds z ∧ kf δ1 z) (hg : Gl X x := by rfl)
    (hn : x ≠ "__name__" := by decide) (hdb : (x == ("__debug__" : Str)) = false := by decide) (he : starEach (e :: es) X.env = (false, eval e X.env) :: starEach es X.env := by rfl) (hpl : (backTo pos (starEach es X.env)).any (·.1) = false := by rfl) : AF S X (.Call (.Name x p) (e :: es) [] pos) δ kf := fun G σ B H R =>
  WE.of (pe_callTy hc hg hm hv (pw_a _) hn hdb he hpl) ((ha G σ B H R).imp fun vs H1 ⟨B1, δ1, as, e1, R1, r1, ds, z, ha, hp, hk⟩ => by
    subst ha
    exact hp G σ B1 H1 δ1 vs _ R1 (args_d r1) fun u H2 R2 ru => ⟨B1, δ1, z, e1, R2, ru, hk⟩)
end
end AX
namespace AX
open PySem PySem.Spec PyProof.Rows L2 Evl
section
variable {S : Sig} {G : Gh} {σ : L2.St} {B B' H H' : Hp} {δ : Sto}
/-- a later start of what is known -/
theorem Rst.rebase (R : Rst S G σ B H δ) : Rst S ⟨B, G.H0, G.L0⟩ σ B H δ :=
  ⟨Ex.refl B, R.nt, R.ex, R.tab, R.keep, R.al, R.l0, fun a h1 h2 => absurd h2 h1, R.len, fun i av h => by
    have q := R.sl i av h
    cases av with
    | imm d => exact q
    | own p o =>
      obtain ⟨l, q1, q2, q3, q4⟩ := q
      refine ⟨l, q1, q2, q3, ?_⟩
      cases p <;> exact q4, R.sep⟩
theorem Rst.unbase {B1 H1 : Hp} {σ1 : L2.St} {δ1 : Sto} (R0 : Rst S G σ1 B1 H1 δ1) (R : Rst S ⟨B1, G.H0, G.L0⟩ σ B H δ) : Rst S G σ B H δ :=
  ⟨R0.exB.trans R.exB, R.nt, R.ex, R.tab, R.keep, R.al, R.l0, fun a h1 h2 => by
    by_cases q : B1 a = none
    · exact R.fr a h1 q
    · exact R0.fr a q h2, R.len, fun i av h => by
    have q := R.sl i av h
    cases av with
    | imm d => exact q
    | own p o =>
      obtain ⟨l, q1, q2, q3, q4⟩ := q
      refine ⟨l, q1, q2, q3, ?_⟩
      cases p <;> exact q4, R.sep⟩
theorem RetOk.unbase {B1 : Hp} {v : V} {r : AV} (h : RetOk S ⟨B1, G.H0, G.L0⟩ B H v r) : RetOk S G B H v r := by
  cases r with
  | imm d => exact h
  | own p o => exact h
end
section
variable {S : Sig} {X : Cx} {δ : Sto} {c e iter tg : Expr} {st : Stmt} {rest body bd2 : List Stmt} {pos p1 : Pos} {D : AEnds}
theorem Do.nil (h : D.nx δ) : Do S X [] δ D := fun G σ B H R => WSs.of pss_nil ⟨B, δ, R, h⟩
theorem Do.cons (h : DoS S X st δ { D with nx := fun δ1 => Do S X rest δ1 D }) : Do S X (st :: rest) δ D := fun G σ B H R =>
  WSs.of (pss_cons (pw_s st) (pw_ss rest)) ((h G σ B H R).imp (fun σ' H' ⟨B1, δ1, R1, q⟩ => q G σ' B1 H' R1) (fun _ _ q => q) (fun _ _ q => q) (fun _ _ q => q))
theorem Do.one (h : DoS S X st δ D) : Do S X [st] δ D := fun G σ B H R => WSs.of (pss_one (pw_s st)) (h G σ B H R)
theorem DoS.imp {D' : AEnds} (h : DoS S X st δ D) (h1 : ∀ δ, D.nx δ → D'.nx δ) (h2 : ∀ δ r, D.rt δ r → D'.rt δ r) (h3 : ∀ δ, D.bk δ → D'.bk δ) (h4 : ∀ δ, D.ct δ → D'.ct δ) : DoS S X st δ D' := fun G σ B H R =>
  (h G σ B H R).imp (fun _ _ ⟨a, b, r, q⟩ => ⟨a, b, r, h1 _ q⟩) (fun _ _ ⟨a, b, c, d, r, t, q⟩ => ⟨a, b, c, d, r, t, h2 _ _ q⟩) (fun _ _ ⟨a, b, r, q⟩ => ⟨a, b, r, h3 _ q⟩) (fun _ _ ⟨a, b, r, q⟩ => ⟨a, b, r, h4 _ q⟩)
/-! ### assignments -/
theorem slot_lt {pins : List (Addr × Obj)} {σ : L2.St} {H : Hp} {s : Shared} {G : Gh} {B : Hp} {i : Nat} {x : Str} (I : Inv X pins σ H s) {H' : Hp} (R : Rst S G σ B H' δ) (hN : X.N[i]? = some x) : i < δ.length := by
  rw [← R.len, I.len]; exact (List.getElem?_eq_some_iff.mp hN).1
theorem DoS.set (i : Nat) {x : Str} (nd : X.N.Nodup) (he : AE S X e δ fun δ1 d => D.nx (δ1.set i (some (.imm d)))) (hN : X.N[i]? = some x := by rfl) (hx : Loc X.env.scope x := by first | exact Or.inl rfl | exact Or.inr rfl)
    (hs : swapsWith e (some (.Name x p1)) pos.line X.env = pure false := by rfl) (hf : X.fn x = true ∨ X.env.scope.names.lookup x = some .local := by first | exact Or.inl rfl | exact Or.inr rfl) : DoS S X (.Assign [.Name x p1] e pos) δ D := fun G σ B H R pins s I =>
  (WS.of (ps_set nd hN hx (pw_e e) hs hf) ((he G σ B H R).imp fun v H1 ⟨B1, δ1, d, e1, R1, r, q⟩ => (show (conc S G D).nx (σ.set i (some v)) H1 from ⟨B1, _, R1.put (slot_lt I R1 hN) r, q⟩))) pins s I
theorem DoS.setF (i : Nat) {x : Str} (nd : X.N.Nodup) (he : AF S X e δ fun δ1 o => D.nx (δ1.set i (some (.own none o)))) (hN : X.N[i]? = some x := by rfl) (hx : Loc X.env.scope x := by first | exact Or.inl rfl | exact Or.inr rfl)
    (hs : swapsWith e (some (.Name x p1)) pos.line X.env = pure false := by rfl) (hf : X.fn x = true ∨ X.env.scope.names.lookup x = some .local := by first | exact Or.inl rfl | exact Or.inr rfl) : DoS S X (.Assign [.Name x p1] e pos) δ D := fun G σ B H R pins s I =>
  (WS.of (ps_set nd hN hx (pw_e e) hs hf) ((he G σ B H R).imp fun v H1 ⟨B1, δ1, o, e1, R1, r, q⟩ => (show (conc S G D).nx (σ.set i (some v)) H1 from ⟨B1, _, R1.putF (slot_lt I R1 hN) r, q⟩))) pins s I
/-- any target, data -/
theorem DoS.asg {js : List Nat} (he : AE S X e δ fun δ1 d => AG S X tg js d δ1 D.nx) (hs : swapsWithSole [tg] e pos.line X.env = pure false := by rfl) (hw : swappedStores [tg] e X.env = pure none := by rfl) (h1 : (assignEach [tg] X.env).map (·.2) = [assign tg X.env] := by rfl) : DoS S X (.Assign [tg] e pos) δ D := fun G σ B H R =>
  WS.of (ps_asg (pw_e e) (pw_g tg) hs hw h1) ((he G σ B H R).imp fun v H1 ⟨B1, δ1, d, e1, R1, r, q⟩ => (q G σ B1 H1 v R1 r).imp fun σ' H' ⟨_, B2, δ2, _, R2, q2⟩ => ⟨B2, δ2, R2, q2⟩)
theorem set_other {σ : L2.St} {i : Nat} {x : Option V} : (σ.set i x).length = σ.length ∧ ∀ j, j ∉ [i] → (σ.set i x)[j]? = σ[j]? := ⟨by simp, fun j hj => List.getElem?_set_ne (fun e => hj (by rw [e]; exact List.mem_singleton.mpr rfl))⟩
theorem AG.name {k : Sto → Prop} {d : DV} (i : Nat) {x : Str} (nd : X.N.Nodup) (h : k (δ.set i (some (.imm d)))) (hN : X.N[i]? = some x := by rfl) (hx : Loc X.env.scope x := by first | exact Or.inl rfl | exact Or.inr rfl)
    (hf : X.fn x = true ∨ X.env.scope.names.lookup x = some .local := by first | exact Or.inl rfl | exact Or.inr rfl) : AG S X (.Name x p1) [i] d δ k := fun G σ B H v R r pins s u I ru =>
  (WG.of (pg_name nd hN hx hf) (show gName i v σ H (fun σ' H' => (σ'.length = σ.length ∧ ∀ j, j ∉ [i] → σ'[j]? = σ[j]?) ∧ ∃ B' δ', Ex B B' ∧ Rst S G σ' B' H' δ' ∧ k δ') from ⟨set_other, B, _, Ex.refl B, R.put (slot_lt I R hN) r, h⟩)) pins s u I ru
/-- names of a tuple's target, one after another -/
def AGs (S : Sig) (X : Cx) (ts : List Expr) (js : List Nat) (ds : List DV) (δ : Sto) (k : Sto → Prop) : Prop :=
  ∃ t, PGs X ts t ∧ ∀ G σ B H vs (Q : L2.St → Hp → Prop), Rst S G σ B H δ → σ.length = X.N.length → RepL S B vs ds → (∀ σ' δ', σ'.length = σ.length → (∀ i, i ∉ js → σ'[i]? = σ[i]?) → Rst S G σ' B H δ' → k δ' → Q σ' H) → t vs σ H Q
theorem AGs.nil {k : Sto → Prop} (h : k δ) : AGs S X [] [] [] δ k := ⟨gNil, pgs_nil, fun G σ B H vs Q R hl r q => by
  cases r
  exact ⟨rfl, q σ δ rfl (fun _ _ => rfl) R h⟩⟩
theorem AGs.cons {k : Sto → Prop} {ts : List Expr} {d : DV} {ds : List DV} {js : List Nat} (i : Nat) {x : Str} (nd : X.N.Nodup) (h : AGs S X ts js ds (δ.set i (some (.imm d))) k) (hN : X.N[i]? = some x := by rfl) (hx : Loc X.env.scope x := by first | exact Or.inl rfl | exact Or.inr rfl)
    (hf : X.fn x = true ∨ X.env.scope.names.lookup x = some .local := by first | exact Or.inl rfl | exact Or.inr rfl)
    (hs : (assignEach (.Name x p1 :: ts) X.env).map (·.2) = assign (.Name x p1) X.env :: (assignEach ts X.env).map (·.2) := by rfl) : AGs S X (.Name x p1 :: ts) (i :: js) (d :: ds) δ k := by
  obtain ⟨t, ht, h⟩ := h
  refine ⟨gCons (gName i) t, pgs_cons (pg_name nd hN hx hf) ht hs, fun G σ B H vs Q R hl r q => ?_⟩
  cases r with
  | @cons v vs d ds r1 r2 =>
    have hi : i < δ.length := by rw [← R.len, hl]; exact (List.getElem?_eq_some_iff.mp hN).1
    refine ⟨v, vs, rfl, h G _ B H vs Q (R.put hi r1) (by simpa using hl) r2 fun σ' δ' l1 l2 R' hk => q σ' δ' (by simpa using l1) (fun j hj => ?_) R' hk⟩
    rw [l2 j (fun z => hj (List.mem_cons_of_mem _ z))]
    exact List.getElem?_set_ne (fun e => hj (by rw [e]; exact List.mem_cons_self))
theorem AG.tup {k : Sto → Prop} {ts : List Expr} {ds : List DV} {kk : Nat} (hc : X.calm = true) (hK : X.K = S.K) {js : List Nat} (h : AGs S X ts js ds δ k) (hn : (assignEach ts X.env).length = ds.length := by rfl) (hst : (assignEach ts X.env).findIdx? (·.1) = none := by rfl) : AG S X (.Tuple ts kk p1) js (.tup ds) δ k := fun G σ B H v R r pins s u I ru => by
  obtain ⟨t, ht, h⟩ := h
  obtain ⟨a, xs, rfl, hx, hr⟩ := r.tup_inv
  exact (WG.of (pg_tup hc ht hn hst) ⟨a, xs, rfl, by rw [hK]; exact ex_t R.ex hx, hr.length, h G σ B H xs _ R I.len hr fun σ' δ' l1 l2 R' hk => ⟨⟨l1, l2⟩, B, δ', Ex.refl B, R', hk⟩⟩) pins s u I ru
theorem AG.lst {k : Sto → Prop} {ts : List Expr} {ds : List DV} {kk : Nat} (hc : X.calm = true) (hK : X.K = S.K) {js : List Nat} (h : AGs S X ts js ds δ k) (hn : (assignEach ts X.env).length = ds.length := by rfl) (hst : (assignEach ts X.env).findIdx? (·.1) = none := by rfl) : AG S X (.Tuple ts kk p1) js (.lst ds) δ k := fun G σ B H v R r pins s u I ru => by
  obtain ⟨t, ht, h⟩ := h
  obtain ⟨a, xs, rfl, hx, hr⟩ := r.lst_inv
  exact (WG.of (pg_unl hc ht hn hst) ⟨a, xs, rfl, sq_of (R.ex _ _ hx), hr.length, h G σ B H xs _ R I.len hr fun σ' δ' l1 l2 R' hk => ⟨⟨l1, l2⟩, B, δ', Ex.refl B, R', hk⟩⟩) pins s u I ru
/-- a, b = e1, e2 -/
theorem DoS.par {e1 e2 : Expr} {x y : Str} {px py pt : Pos} {kt k2 : Nat} {pt2 : Pos} (i j : Nat) (nd : X.N.Nodup) (hc : X.calm = true) (ha : AA S X [e1, e2] δ fun δ1 as => ∃ d1 d2, as = [.d d1, .d d2] ∧ D.nx ((δ1.set i (some (.imm d1))).set j (some (.imm d2)))) (hi : X.N[i]? = some x := by rfl) (hj : X.N[j]? = some y := by rfl) (hij : i ≠ j := by decide)
    (hx : X.env.scope.names.lookup x = some .local := by rfl) (hy : X.env.scope.names.lookup y = some .local := by rfl) (hw : swappedStores [.Tuple [.Name x px, .Name y py] kt pt] (.Tuple [e1, e2] k2 pt2) X.env = pure (some [x, y]) := by rfl)
    (hs : swapsWithSole [.Tuple [.Name x px, .Name y py] kt pt] (.Tuple [e1, e2] k2 pt2) pos.line X.env = pure false := by rfl) : DoS S X (.Assign [.Tuple [.Name x px, .Name y py] kt pt] (.Tuple [e1, e2] k2 pt2) pos) δ D := fun G σ B H R pins s I =>
  (WS.of (ps_par hc nd hi hj hij hx hy (pw_a _) hw hs) ((ha G σ B H R).imp fun vs H1 ⟨B1, δ1, as, e1, R1, r, d1, d2, ea, q⟩ => by
    subst ea
    cases r with
    | cons r1 r =>
      cases r with
      | cons r2 r =>
        cases r
        exact ⟨_, _, rfl, B1, _, (R1.put (slot_lt I R1 hi) r1).put (by simpa using slot_lt I R1 hj) r2, q⟩)) pins s I
/-! ### if, return, expressions -/
theorem DoS.ite (hc : AT S X c δ fun δ1 b => if b = true then Do S X body δ1 D else Do S X bd2 δ1 D) : DoS S X (.If c body bd2 pos) δ D := fun G σ B H R =>
  WS.of (ps_if (pw_t c) (pw_ss body) (pw_ss bd2)) ((hc G σ B H R).imp fun b H1 ⟨B1, δ1, e1, R1, q⟩ => by
    cases b with
    | true => rw [if_pos rfl] at q ⊢; exact q G σ B1 H1 R1
    | false => rw [if_neg Bool.false_ne_true] at q ⊢; exact q G σ B1 H1 R1)
theorem DoS.ret (he : AE S X e δ fun δ1 d => D.rt δ1 (.imm d)) : DoS S X (.Return (some e) pos) δ D := fun G σ B H R =>
  WS.of (ps_ret (pw_e e)) ((he G σ B H R).imp fun v H1 ⟨B1, δ1, d, e1, R1, r, q⟩ => ⟨σ, B1, δ1, .imm d, R1, r, q⟩)
theorem DoS.retF (he : AF S X e δ fun δ1 o => D.rt δ1 (.own none o)) : DoS S X (.Return (some e) pos) δ D := fun G σ B H R =>
  WS.of (ps_ret (pw_e e)) ((he G σ B H R).imp fun v H1 ⟨B1, δ1, o, e1, R1, n, q⟩ => by
    obtain ⟨l, h1, h2, h3, h4, _⟩ := n
    exact ⟨σ, B1, δ1, .own none o, R1, ⟨l, h1, h2, h3, h4⟩, q⟩)
theorem DoS.expr (he : AE S X e δ fun δ1 _ => D.nx δ1) (hs : swapsWith e none pos.line X.env = pure false := by rfl) : DoS S X (.Expr e pos) δ D := fun G σ B H R =>
  WS.of (ps_expr (pw_e e) hs) ((he G σ B H R).imp fun v H1 ⟨B1, δ1, d, e1, R1, r, q⟩ => ⟨B1, δ1, R1, q⟩)
theorem DoS.pass (h : D.nx δ) : DoS S X (.Pass pos) δ D := fun G σ B H R => WS.of ps_pass ⟨B, δ, R, h⟩
theorem DoS.brk (h : D.bk δ) : DoS S X (.Break pos) δ D := fun G σ B H R => WS.of ps_break ⟨B, δ, R, h⟩
theorem DoS.cont (h : D.ct δ) : DoS S X (.Continue pos) δ D := fun G σ B H R => WS.of ps_continue ⟨B, δ, R, h⟩
/-- x += e, whole numbers -/
theorem DoS.aug (i : Nat) {x : Str} {op : Operator} {f : Int → Int → Int} {n : Int} (nd : X.N.Nodup) (ho : PIp X op (ipI f)) (hv : δ[i]? = some (some (.imm (.int n)))) (he : AE S X e δ fun δ1 d => ∃ m, d = .int m ∧ D.nx (δ1.set i (some (.imm (.int (f n m)))))) (hN : X.N[i]? = some x := by rfl) (hx : Loc X.env.scope x := by first | exact Or.inl rfl | exact Or.inr rfl)
    (hf : X.fn x = true ∨ X.env.scope.names.lookup x = some .local := by first | exact Or.inl rfl | exact Or.inr rfl) : DoS S X (.AugAssign (.Name x p1) op e pos) δ D := fun G σ B H R pins s I => by
  obtain ⟨v, hv1, hv2⟩ := R.sl i _ hv
  rw [hv2.int_inv] at hv1
  exact (WS.of (ps_aug nd hN hx (pw_e e) ho hf) ⟨_, hv1, (he G σ B H R).imp fun v H1 ⟨B1, δ1, d, e1, R1, r, m, ed, q⟩ => by
    subst ed
    exact ⟨n, m, rfl, r.int_inv, B1, _, R1.put (slot_lt I R1 hN) (.int _), q⟩⟩) pins s I
/-! ### loops -/
/-- what a loop over data asks: an invariant by the turn -/
def Loop (S : Sig) (X : Cx) (tg : Expr) (body : List Stmt) (D : AEnds) (ds : List DV) (δ1 : Sto) : Prop := ∃ I : Nat → Sto → Prop, I 0 δ1 ∧
    (∀ i x δ2, ds[i]? = some x → I i δ2 → ∃ js, AG S X tg js x δ2 fun δ3 => Do S X body δ3 { D with nx := I (i + 1), ct := I (i + 1), bk := D.nx }) ∧ ∀ δ2, I ds.length δ2 → D.nx δ2
theorem loop_turn {G : Gh} {σ : L2.St} {B1 H1 : Hp} {δ1 : Sto} {ds : List DV} {Iv : Nat → Sto → Prop} (R1 : Rst S G σ B1 H1 δ1) (hb : ∀ i x δ2, ds[i]? = some x → Iv i δ2 → ∃ js, AG S X tg js x δ2 fun δ3 => Do S X body δ3 { D with nx := Iv (i + 1), ct := Iv (i + 1), bk := D.nx })
    (i : Nat) (x : V) (y : DV) (σ' : L2.St) (H' : Hp) (hy : ds[i]? = some y) (hI : ∃ B2 δ2, Rst S ⟨B1, G.H0, G.L0⟩ σ' B2 H' δ2 ∧ Iv i δ2 ∧ Rep S B2 x y) :
    WG X tg x σ' H' fun σ2 H2 => WSs X body { conc S G D with nx := fun σ' H' => ∃ B2 δ2, Rst S ⟨B1, G.H0, G.L0⟩ σ' B2 H' δ2 ∧ Iv (i + 1) δ2, ct := fun σ' H' => ∃ B2 δ2, Rst S ⟨B1, G.H0, G.L0⟩ σ' B2 H' δ2 ∧ Iv (i + 1) δ2, bk := (conc S G D).nx } σ2 H2 := by
  obtain ⟨B2, δ2, R2, hI, ry⟩ := hI
  obtain ⟨js, hb⟩ := hb i y δ2 hy hI
  refine (hb _ σ' B2 H' x R2 ry).imp fun σ2 H2 ⟨_, B3, δ3, e3, R3, q3⟩ => ?_
  refine fun pins s I => thn (q3 _ σ2 B3 H2 R3 pins s I) fun f s' q => ?_
  cases f with
  | next => exact q
  | brk => obtain ⟨a1, a2, a3, a4, a5, a6, a7⟩ := q; exact ⟨a1, a2, a3, a4, a5, R1.unbase a6, a7⟩
  | cont => exact q
  | ret u =>
    obtain ⟨v, σ', H', I', rv, σ2, B2, δ2, r, R2, ro, q⟩ := q
    exact ⟨v, σ', H', I', rv, σ2, B2, δ2, r, R1.unbase R2, RetOk.unbase ro, q⟩
theorem DoS.forL (hc : X.calm = true) (hK : X.K = S.K) (hp : PassesOwn (model X.prog X.w) X.A X.env X.xe) (hi : AE S X iter δ fun δ1 d => ∃ ds, d = .lst ds ∧ Loop S X tg body D ds δ1)
    (hs : ∀ x, foldedSetIterable iter X.env x = pure x := by intro _; rfl) : DoS S X (.For tg iter body [] pos) δ D := fun G σ B H R =>
  WS.of (ps_for hp hc (pi_list (pw_e iter)) (pw_g tg) (pw_ss body) hs) ((hi G σ B H R).imp fun v H1 ⟨B1, δ1, d, e1, R1, r, ds, hd, Iv, i0, hb, hq⟩ => by
    subst hd
    obtain ⟨a, xs, rfl, hx, hr⟩ := r.lst_inv
    refine ⟨a, rfl, ⟨xs, sq_of (R1.ex _ _ hx)⟩, ?_⟩
    refine for_list (K := X.K) (a := a) (xs := xs) (D := conc S G D) (fun i σ' H' => ∃ B2 δ2, Rst S ⟨B1, G.H0, G.L0⟩ σ' B2 H' δ2 ∧ Iv i δ2) ⟨B1, δ1, R1.rebase, i0⟩ (fun i σ' H' _ ⟨B2, δ2, R2, _⟩ => sq_of (R2.ex _ _ (R2.exB _ _ hx))) (fun i x σ' H' hi hI => ?_) ?_
    · obtain ⟨y, hy, ry⟩ := hr.get' hi
      obtain ⟨B2, δ2, R2, hI⟩ := hI
      exact loop_turn R1 hb i x y σ' H' hy ⟨B2, δ2, R2, hI, ry.mono R2.exB⟩
    · rintro σ' H' ⟨B2, δ2, R2, hI⟩
      exact ⟨B2, δ2, R1.unbase R2, hq δ2 (by rw [← hr.length]; exact hI)⟩)
theorem DoS.forT (hc : X.calm = true) (hK : X.K = S.K) (hp : PassesOwn (model X.prog X.w) X.A X.env X.xe) (hi : AE S X iter δ fun δ1 d => ∃ ds, d = .tup ds ∧ Loop S X tg body D ds δ1)
    (hs : ∀ x, foldedSetIterable iter X.env x = pure x := by intro _; rfl) : DoS S X (.For tg iter body [] pos) δ D := fun G σ B H R =>
  WS.of (ps_for hp hc (pi_tup (pw_e iter)) (pw_g tg) (pw_ss body) hs) ((hi G σ B H R).imp fun v H1 ⟨B1, δ1, d, e1, R1, r, ds, hd, Iv, i0, hb, hq⟩ => by
    subst hd
    obtain ⟨a, xs, rfl, hx, hr⟩ := r.tup_inv
    refine ⟨a, rfl, ⟨xs, by rw [hK]; exact ex_t R1.ex hx⟩, ?_⟩
    refine for_tup (K := X.K) (a := a) (xs := xs) (D := conc S G D) (fun i σ' H' => ∃ B2 δ2, Rst S ⟨B1, G.H0, G.L0⟩ σ' B2 H' δ2 ∧ Iv i δ2) ⟨B1, δ1, R1.rebase, i0⟩ (fun i σ' H' _ ⟨B2, δ2, R2, _⟩ => by rw [hK]; exact ex_t R2.ex (ex_t R2.exB hx)) (fun i x σ' H' hi hI => ?_) ?_
    · obtain ⟨y, hy, ry⟩ := hr.get' hi
      obtain ⟨B2, δ2, R2, hI⟩ := hI
      exact loop_turn R1 hb i x y σ' H' hy ⟨B2, δ2, R2, hI, ry.mono R2.exB⟩
    · rintro σ' H' ⟨B2, δ2, R2, hI⟩
      exact ⟨B2, δ2, R1.unbase R2, hq δ2 (by rw [← hr.length]; exact hI)⟩)
theorem range_get {n i : Nat} {x : DV} {lo : Int} (h : ((List.range n).map fun j : Nat => DV.int (lo + (j : Int)))[i]? = some x) : i < n ∧ x = .int (lo + (i : Int)) := by
  rw [List.getElem?_map] at h
  by_cases hi : i < n
  · rw [List.getElem?_range hi] at h
    exact ⟨hi, (Option.some.inj h).symm⟩
  · rw [List.getElem?_eq_none (by simpa using hi)] at h; cases h
/-- range(n) as data -/
def rngD (lo : Int) (n : Nat) : List DV := (List.range n).map fun j : Nat => DV.int (lo + (j : Int))
theorem rngD_len (lo : Int) (n : Nat) : (rngD lo n).length = n := by unfold rngD; simp
theorem rngD_get {lo : Int} {n i : Nat} (h : i < n) : (rngD lo n)[i]? = some (.int (lo + (i : Int))) := by
  unfold rngD
  rw [List.getElem?_map, List.getElem?_range h] <;> rfl
theorem DoS.forR {p : Pos} (hc : X.calm = true) (hp : PassesOwn (model X.prog X.w) X.A X.env X.xe) (hm : X.mg "range" = none) (hi : AE S X e δ fun δ1 d => ∃ n : Int, d = .int n ∧ -1000000 ≤ n ∧ n ≤ 1000000 ∧ Loop S X tg body D (rngD 0 n.toNat) δ1)
    (hg : Gl X "range" := by rfl) (hst : starEach [e] X.env = (false, eval e X.env) :: starEach [] X.env := by rfl) (hs : ∀ x, foldedSetIterable (.Call (.Name "range" p) [e] [] p1) X.env x = pure x := by intro _; rfl) : DoS S X (.For tg (.Call (.Name "range" p) [e] [] p1) body [] pos) δ D := fun G σ B H R =>
  WS.of (ps_for hp hc (pi_range1 hg hm (pa_cons (pw_e e) pa_nil hst) (hs := hst)) (pw_g tg) (pw_ss body) hs) ((hi G σ B H R).imp fun v H1 ⟨B1, δ1, d, e1, R1, r, n, hd, hn0, hn, Iv, i0, hb, hq⟩ => by
    subst hd
    rw [r.int_inv]
    refine ⟨n, rfl, by omega, by omega, ?_⟩
    refine for_range (lo := 0) (n := n.toNat) (D := conc S G D) (fun i σ' H' => ∃ B2 δ2, Rst S ⟨B1, G.H0, G.L0⟩ σ' B2 H' δ2 ∧ Iv i δ2) ⟨B1, δ1, R1.rebase, i0⟩ (fun i σ' H' hi hI => ?_) ?_
    · obtain ⟨B2, δ2, R2, hI⟩ := hI
      exact loop_turn R1 hb i _ (.int (0 + (i : Int))) σ' H' (rngD_get hi) ⟨B2, δ2, R2, hI, .int _⟩
    · rintro σ' H' ⟨B2, δ2, R2, hI⟩
      exact ⟨B2, δ2, R1.unbase R2, hq δ2 (by rw [rngD_len]; exact hI)⟩)
/-- while, by a number that falls -/
theorem DoS.while (hp : PassesOwn (model X.prog X.w) X.A X.env X.xe) (I : Nat → Sto → Prop) (m0 : Nat) (h0 : I m0 δ)
    (hs : ∀ m δ1, I m δ1 → AT S X c δ1 fun δ2 b => if b = true then Do S X body δ2 { D with nx := fun δ3 => ∃ m', m' < m ∧ I m' δ3, ct := fun δ3 => ∃ m', m' < m ∧ I m' δ3, bk := D.nx } else D.nx δ2) : DoS S X (.While c body [] pos) δ D := fun G σ B H R =>
  WS.of (ps_while hp (pw_t c) (pw_ss body)) ⟨fun m σ' H' => ∃ B2 δ2, Rst S G σ' B2 H' δ2 ∧ I m δ2, ⟨m0, B, δ, R, h0⟩, fun m σ' H' ⟨B2, δ2, R2, hI⟩ => (hs m δ2 hI G σ' B2 H' R2).imp fun b H3 ⟨B3, δ3, e3, R3, q⟩ => by
    cases b with
    | true =>
      rw [if_pos rfl] at q ⊢
      exact ⟨fun σ' H' => ∃ B2 δ2, Rst S G σ' B2 H' δ2 ∧ ∃ m', m' < m ∧ I m' δ2, fun σ' H' ⟨B2, δ2, R2, m', hm, hI⟩ => ⟨m', hm, B2, δ2, R2, hI⟩, q G σ' B3 H3 R3⟩
    | false =>
      rw [if_neg Bool.false_ne_true] at q ⊢
      exact ⟨B3, δ3, R3, q⟩⟩
end
end AX
namespace AX
open PySem PySem.Spec PyProof.Rows L2 Evl
def wipeS (δ : Sto) : List Nat → Sto
  | [] => δ
  | v :: vs => (wipeS δ vs).set v none
theorem wipe_get {σ : L2.St} {i : Nat} : ∀ {vs : List Nat}, (wipe σ vs)[i]? = if i ∈ vs then (if i < σ.length then some none else none) else σ[i]?
  | [] => by simp [wipe]
  | v :: vs => by
    unfold wipe
    by_cases e : v = i
    · subst e
      simp only [List.mem_cons, true_or, if_true]
      by_cases h : v < σ.length
      · rw [if_pos h, List.getElem?_set_self (by rw [wipe_length]; exact h)]
      · rw [if_neg h, List.getElem?_eq_none (by rw [List.length_set, wipe_length]; omega)]
    · rw [List.getElem?_set_ne e, wipe_get (vs := vs)]
      have : (i ∈ v :: vs) ↔ i ∈ vs := by simp [Ne.symm e]
      simp only [this]
theorem wipeS_length (δ : Sto) : ∀ vs : List Nat, (wipeS δ vs).length = δ.length
  | [] => rfl
  | v :: vs => by unfold wipeS; rw [List.length_set, wipeS_length δ vs]
theorem wipeS_get {δ : Sto} {i : Nat} : ∀ {vs : List Nat}, (wipeS δ vs)[i]? = if i ∈ vs then (if i < δ.length then some none else none) else δ[i]?
  | [] => by simp [wipeS]
  | v :: vs => by
    unfold wipeS
    by_cases e : v = i
    · subst e
      simp only [List.mem_cons, true_or, if_true]
      by_cases h : v < δ.length
      · rw [if_pos h, List.getElem?_set_self (by rw [wipeS_length]; exact h)]
      · rw [if_neg h, List.getElem?_eq_none (by rw [List.length_set, wipeS_length]; omega)]
    · rw [List.getElem?_set_ne e, wipeS_get (vs := vs)]
      have : (i ∈ v :: vs) ↔ i ∈ vs := by simp [Ne.symm e]
      simp only [this]
theorem wipe_eq {σ σ' : L2.St} {js vs : List Nat} (hl : σ'.length = σ.length) (h : ∀ i, i ∉ js → σ'[i]? = (wipe σ vs)[i]?) (hj : ∀ i ∈ js, i ∈ vs) : wipe σ' vs = wipe σ vs := by
  apply List.ext_getElem?
  intro i
  rw [wipe_get, wipe_get]
  by_cases hi : i ∈ vs
  · rw [if_pos hi, if_pos hi, hl]
  · rw [if_neg hi, if_neg hi, h i (fun z => hi (hj i z)), wipe_get, if_neg hi]
section
variable {S : Sig} {G : Gh} {σ : L2.St} {B B' H H' : Hp} {δ : Sto}
theorem Rst.wipe (R : Rst S G σ B H δ) (vs : List Nat) : Rst S G (L2.wipe σ vs) B H (wipeS δ vs) := by
  have g : ∀ (i : Nat) (av : AV), (wipeS δ vs)[i]? = some (some av) → δ[i]? = some (some av) ∧ (L2.wipe σ vs)[i]? = σ[i]? := fun i av h => by
    rw [wipeS_get] at h
    by_cases hi : i ∈ vs
    · rw [if_pos hi] at h
      split at h <;> cases h
    · rw [if_neg hi] at h
      exact ⟨h, by rw [wipe_get, if_neg hi]⟩
  refine ⟨R.exB, R.nt, R.ex, R.tab, R.keep, R.al, R.l0, R.fr, by rw [L2.wipe_length, wipeS_length, R.len], fun i av h => ?_, fun i j l p o p' o' a1 a2 a3 a4 => ?_⟩
  · obtain ⟨h1, h2⟩ := g i av h
    have q := R.sl i av h1
    cases av with
    | imm d => obtain ⟨v, q1, q2⟩ := q; exact ⟨v, by rw [h2]; exact q1, q2⟩
    | own p o => obtain ⟨l, q1, q2⟩ := q; exact ⟨l, by rw [h2]; exact q1, q2⟩
  · obtain ⟨b1, c1⟩ := g i _ a1
    obtain ⟨b2, c2⟩ := g j _ a2
    exact R.sep i j l p o p' o' b1 b2 (by rw [← c1]; exact a3) (by rw [← c2]; exact a4)
/-- a start that also keeps what lies at D -/
def Gh.with (G : Gh) (B : Hp) (D : Addr) (o : Option HO) : Gh := ⟨B, fun a => if a = D then o else G.H0 a, G.L0⟩
theorem Rst.hold (R : Rst S G σ B H δ) {D : Addr} {o : OV} (n : New S G σ B H δ (.ref D) o) : Rst S (G.with B D (H D)) σ B H δ := by
  obtain ⟨l, e, n1, n2, n3, n4⟩ := n
  have e : D = l := by injection e
  subst e
  refine ⟨Ex.refl B, R.nt, R.ex, R.tab, fun a u h1 h2 h3 => ?_, fun a h => ?_, fun a h => ?_, fun a h1 h2 => absurd h2 h1, R.len, fun i av h => ?_, R.sep⟩
  · by_cases ha : a = D
    · have h3 : (if a = D then H D else G.H0 a) = some u := h3
      rw [if_pos ha] at h3
      rw [ha]; exact h3
    · have h3 : (if a = D then H D else G.H0 a) = some u := h3
      rw [if_neg ha] at h3
      exact R.keep a u h1 h2 h3
  · by_cases ha : a = D
    · intro z
      refine h fun o ho => z o ?_
      have ho : (if a = D then H D else G.H0 a) = some o := ho
      rw [if_pos ha] at ho
      rw [ha]; exact ho
    · refine R.al a fun z => h fun o ho => z o ?_
      have ho : (if a = D then H D else G.H0 a) = some o := ho
      rw [if_neg ha] at ho
      exact ho
  · by_cases ha : a = D
    · rw [ha] at h; exact absurd n3 (R.l0 D h)
    · intro z
      refine R.l0 a h fun o ho => z o ?_
      show (if a = D then H D else G.H0 a) = some o
      rw [if_neg ha]; exact ho
  · have q := R.sl i av h
    cases av with
    | imm d => exact q
    | own p u =>
      obtain ⟨l, q1, q2, q3, q4⟩ := q
      refine ⟨l, q1, q2, q3, ?_⟩
      cases p with
      | some j => exact q4
      | none =>
        have ne : l ≠ D := fun z => n4 i none u h (by rw [q1, z])
        intro o ho
        have ho : (if l = D then H D else G.H0 l) = some o := ho
        rw [if_neg ne] at ho
        exact q4 o ho
/-- and back -/
theorem Rst.held {σ0 : L2.St} {B0 H0 : Hp} {δ0 : Sto} (R0 : Rst S G σ0 B0 H0 δ0) {D : Addr} {vs : List V} {ds : List DV} (n : New S G σ0 B0 H0 δ0 (.ref D) (.lst ds)) (hv : H0 D = some (.lst vs)) (rv : RepL S B0 vs ds) (R : Rst S (G.with B0 D (H0 D)) σ B H δ) :
    Rst S G σ B H δ ∧ H D = some (.lst vs) ∧ New S G σ B H δ (.ref D) (.lst ds) := by
  obtain ⟨l, e, n1, n2, n3, n4⟩ := n
  have e : D = l := by injection e
  subst e
  have hD : H D = some (.lst vs) := R.keep D _ (fun z => R0.l0 D z n3) (fun ps z => by cases z) (by show (if D = D then H0 D else _) = _; rw [if_pos rfl]; exact hv)
  have nD : ∀ (i : Nat) (p : Option Nat) (u : OV), δ[i]? = some (some (AV.own p u)) → σ[i]? ≠ some (some (V.ref D)) := fun i p u h z => by
    obtain ⟨l, q1, q2, q3, q4⟩ := R.sl i _ h
    rw [q1] at z
    have e : l = D := by injection (Option.some.inj (Option.some.inj z))
    rw [e] at q4
    cases p with
    | some j => exact R0.l0 D (List.mem_of_getElem? q4) n3
    | none =>
      obtain ⟨ps, ep⟩ := (show Nn (fun a => if a = D then H0 D else G.H0 a) D from q4) (.lst vs) (by show (if D = D then H0 D else _) = _; rw [if_pos rfl]; exact hv)
      cases ep
  have bD : B D = none := Classical.byContradiction fun z => by
    obtain ⟨ps, ep⟩ := (show Nn (fun a => if a = D then H0 D else G.H0 a) D from R.fr D z n2) (.lst vs) (by show (if D = D then H0 D else _) = _; rw [if_pos rfl]; exact hv)
    cases ep
  refine ⟨⟨R0.exB.trans R.exB, R.nt, R.ex, R.tab, fun a u h1 h2 h3 => ?_, fun a h => ?_, R0.l0, fun a h1 h2 => ?_, R.len, fun i av h => ?_, R.sep⟩, hD, D, rfl, ⟨vs, hD, rv.mono R.exB⟩, bD, n3, nD⟩
  · have ne : a ≠ D := fun z => by
      rw [z] at h3
      obtain ⟨ps, ep⟩ := n3 u h3
      exact h2 ps ep
    exact R.keep a u h1 h2 (by show (if a = D then H0 D else G.H0 a) = _; rw [if_neg ne]; exact h3)
  · have ne : a ≠ D := fun z => h (by rw [z]; exact n3)
    refine R.al a fun z => h fun o ho => z o ?_
    show (if a = D then H0 D else G.H0 a) = some o
    rw [if_neg ne]; exact ho
  · by_cases q : B0 a = none
    · by_cases ne : a = D
      · rw [ne]; exact n3
      · intro o ho
        refine R.fr a h1 q o ?_
        show (if a = D then H0 D else G.H0 a) = some o
        rw [if_neg ne]; exact ho
    · exact R0.fr a q h2
  · have q := R.sl i av h
    cases av with
    | imm d => exact q
    | own p u =>
      obtain ⟨l, q1, q2, q3, q4⟩ := q
      refine ⟨l, q1, q2, q3, ?_⟩
      cases p with
      | some j => exact q4
      | none =>
        have ne : l ≠ D := fun z => nD i none u h (by rw [q1, z])
        intro o ho
        refine (show Nn (fun a => if a = D then H0 D else G.H0 a) l from q4) o ?_
        show (if l = D then H0 D else G.H0 l) = some o
        rw [if_neg ne]; exact ho
/-- a new list grows -/
theorem New.push (R : Rst S G σ B H δ) {D : Addr} {vs : List V} {ds : List DV} (n : New S G σ B H δ (.ref D) (.lst ds)) (hv : H D = some (.lst vs)) {v : V} {d : DV} (r : Rep S B v d) (rv : RepL S B vs ds) :
    Rst S G σ B (upd H D (.lst (vs ++ [v]))) δ ∧ New S G σ B (upd H D (.lst (vs ++ [v]))) δ (.ref D) (.lst (ds ++ [d])) := by
  obtain ⟨l, e, n1, n2, n3, n4⟩ := n
  have e : D = l := by injection e
  subst e
  have nb : ∀ b x, B b = some x → b ≠ D := fun b x z e => by rw [e, n2] at z; cases z
  refine ⟨⟨R.exB, R.nt, fun b x z => by rw [upd_ne (nb b x z)]; exact R.ex b x z, fun t ht => ?_, fun a u h1 h2 h3 => ?_, fun a h => ?_, R.l0, R.fr, R.len, fun i av h => ?_, R.sep⟩, D, rfl, ⟨_, upd_same, rv.append (.cons r .nil)⟩, n2, n3, n4⟩
  · obtain ⟨ps, h1, h2, h3⟩ := R.tab t ht
    have ne : t.1 ≠ D := fun z => by rw [z, hv] at h1; cases h1
    refine ⟨ps, by rw [upd_ne ne]; exact h1, h2, fun pos cv hc => ?_⟩
    obtain ⟨c, e1, e2⟩ := h3 pos cv hc
    have ne2 : c ≠ D := fun z => by rw [z, hv] at e2; unfold LamX.CodeO at e2; cases e2
    exact ⟨c, e1, by rw [upd_ne ne2]; exact e2⟩
  · have ne : a ≠ D := fun z => by
      rw [z] at h3
      obtain ⟨ps, ep⟩ := n3 u h3
      exact h2 ps ep
    rw [upd_ne ne]; exact R.keep a u h1 h2 h3
  · by_cases ne : a = D
    · intro z
      obtain ⟨ps, ep⟩ := z _ (by rw [ne]; exact upd_same)
      cases ep
    · exact fun z => R.al a h fun o ho => z o (by rw [upd_ne ne]; exact ho)
  · have q := R.sl i av h
    cases av with
    | imm d => exact q
    | own p u =>
      obtain ⟨l, q1, q2, q3, q4⟩ := q
      have ne : l ≠ D := fun z => n4 i p u h (by rw [q1, z])
      exact ⟨l, q1, q2.mono (Ex.refl B) (upd_ne ne), q3, q4⟩
/-- behind the block: the slots vs as they were ahead of it -/
def restS (δ1 δ2 : Sto) (vs : List Nat) : Sto := (List.range δ2.length).map fun i => if i ∈ vs then δ1.getD i none else δ2.getD i none
theorem restS_get {δ1 δ2 : Sto} {vs : List Nat} {i : Nat} (h : i < δ2.length) : (restS δ1 δ2 vs)[i]? = some (if i ∈ vs then δ1.getD i none else δ2.getD i none) := by
  unfold restS; rw [List.getElem?_map, List.getElem?_range h] <;> rfl
theorem restS_wipe {δ : Sto} {vs : List Nat} : restS δ (wipeS δ vs) vs = δ := by
  apply List.ext_getElem?
  intro i
  by_cases h : i < δ.length
  · rw [restS_get (by rw [wipeS_length]; exact h)]
    by_cases hi : i ∈ vs
    · rw [if_pos hi, List.getD_eq_getElem?_getD, List.getElem?_eq_getElem h]; rfl
    · rw [if_neg hi, List.getD_eq_getElem?_getD, wipeS_get, if_neg hi, List.getElem?_eq_getElem h]; rfl
  · rw [List.getElem?_eq_none (by unfold restS; simp [wipeS_length]; omega), List.getElem?_eq_none (by omega)]
def NoOwn (δ : Sto) (vs : List Nat) : Prop := ∀ j ∈ vs, ∀ (p : Option Nat) (o : OV), δ[j]? ≠ some (some (AV.own p o))
theorem Rst.rest {B1 H1 : Hp} {δ1 : Sto} (R1 : Rst S G σ B1 H1 δ1) {vs : List Nat} (no : NoOwn δ1 vs) (R : Rst S ⟨B1, G.H0, G.L0⟩ (L2.wipe σ vs) B H δ) : Rst S G σ B H (restS δ1 δ vs) := by
  have R' := R1.unbase R
  have hl : δ.length = δ1.length := by rw [← R.len, L2.wipe_length, R1.len]
  have g : ∀ (i : Nat) (av : AV), (restS δ1 δ vs)[i]? = some (some av) → (i ∈ vs ∧ δ1[i]? = some (some av)) ∨ (i ∉ vs ∧ δ[i]? = some (some av) ∧ (L2.wipe σ vs)[i]? = σ[i]?) := fun i av h => by
    have hi : i < δ.length := by
      have := (List.getElem?_eq_some_iff.mp h).1
      unfold restS at this; simpa using this
    rw [restS_get hi] at h
    by_cases hv : i ∈ vs
    · rw [if_pos hv, List.getD_eq_getElem?_getD, List.getElem?_eq_getElem (by omega)] at h
      exact .inl ⟨hv, by rw [List.getElem?_eq_getElem (by omega)]; simpa using h⟩
    · rw [if_neg hv, List.getD_eq_getElem?_getD, List.getElem?_eq_getElem hi] at h
      exact .inr ⟨hv, by rw [List.getElem?_eq_getElem hi]; simpa using h, by rw [wipe_get, if_neg hv]⟩
  have own : ∀ (i : Nat) (p : Option Nat) (o : OV), (restS δ1 δ vs)[i]? = some (some (AV.own p o)) → δ[i]? = some (some (AV.own p o)) ∧ (L2.wipe σ vs)[i]? = σ[i]? := fun i p o h => by
    rcases g i _ h with ⟨h1, h2⟩ | ⟨_, h2, h3⟩
    · exact absurd h2 (no i h1 p o)
    · exact ⟨h2, h3⟩
  refine ⟨R'.exB, R'.nt, R'.ex, R'.tab, R'.keep, R'.al, R'.l0, R'.fr, by unfold restS; simp [hl, R1.len], fun i av h => ?_, fun i j l p o p' o' a1 a2 a3 a4 => ?_⟩
  · cases av with
    | imm d =>
      rcases g i _ h with ⟨h1, h2⟩ | ⟨_, h2, h3⟩
      · obtain ⟨v, q1, q2⟩ := R1.sl i _ h2
        exact ⟨v, q1, q2.mono R.exB⟩
      · obtain ⟨v, q1, q2⟩ := R'.sl i _ h2
        exact ⟨v, by rw [← h3]; exact q1, q2⟩
    | own p o =>
      obtain ⟨h2, h3⟩ := own i p o h
      obtain ⟨l, q1, q2⟩ := R'.sl i _ h2
      exact ⟨l, by rw [← h3]; exact q1, q2⟩
  · obtain ⟨b1, c1⟩ := own i p o a1
    obtain ⟨b2, c2⟩ := own j p' o' a2
    exact R'.sep i j l p o p' o' b1 b2 (by rw [c1]; exact a3) (by rw [c2]; exact a4)
end
/-! ## the block's readings, for every start -/
section
variable {S : Sig} {X : Cx} {δ : Sto} {scope : Scope}
abbrev BX (X : Cx) (scope : Scope) (s : Shared) (H : Hp) (C : Addr) (cl : List (Str × Addr)) (fp : List Addr) : Cx := X.blk s H scope (compEnvC scope cl C X.env) fp
def WEb (X : Cx) (scope : Scope) (e : Expr) : TE := fun σ H Q => ∀ s0 H0 C cl fp, WE (BX X scope s0 H0 C cl fp) e σ H Q
def WGb (X : Cx) (scope : Scope) (e : Expr) : TG := fun v σ H Q => ∀ s0 H0 C cl fp, WG (BX X scope s0 H0 C cl fp) e v σ H Q
def WTs (X : Cx) (ifs : List Expr) : TT := fun σ H Q => ∀ pins s, Inv X pins σ H s → wpAny (model X.prog X.w) X.A (forIn ifs true fun c r => if r = true then do let ok ← isTrue c X.env (eval c X.env); pure (ForInStep.yield ok) else pure (ForInStep.yield r)) (TP X pins σ Q) X.xe s
def WTb (X : Cx) (scope : Scope) (ifs : List Expr) : TT := fun σ H Q => ∀ s0 H0 C cl fp, WTs (BX X scope s0 H0 C cl fp) ifs σ H Q
theorem WTs.of {ifs : List Expr} {t : TT} {σ : L2.St} {H : Hp} {Q : Bool → Hp → Prop} (h : PTs X ifs t) (q : t σ H Q) : WTs X ifs σ H Q := fun pins s I => h.run pins s σ H Q I q
def ATs (S : Sig) (X : Cx) (ifs : List Expr) (δ : Sto) (k : Sto → Bool → Prop) : Prop :=
  ∀ G σ B H, Rst S G σ B H δ → WTs X ifs σ H fun b H' => ∃ B' δ', Ex B B' ∧ Rst S G σ B' H' δ' ∧ k δ' b
theorem ATs.nil {k : Sto → Bool → Prop} (h : k δ true) : ATs S X [] δ k := fun G σ B H R => WTs.of pts_nil ⟨B, δ, Ex.refl B, R, h⟩
theorem ATs.one {c : Expr} {k : Sto → Bool → Prop} (h : AT S X c δ k) : ATs S X [c] δ k := fun G σ B H R => WTs.of (pts_one (pw_t c)) (h G σ B H R)
end
/-- what a comprehension over the data ds asks: an invariant over the turn, the names and what is made so far -/
def Comp (S : Sig) (X : Cx) (scope : Scope) (tg elt : Expr) (ifs : List Expr) (vs : List Nat) (ds : List DV) (δ1 : Sto) (kf : Sto → OV → Prop) : Prop := ds.length ≤ 100000 ∧ NoOwn δ1 vs ∧ ∃ I : Nat → Sto → List DV → Prop, I 0 (wipeS δ1 vs) [] ∧
  (∀ i x δ2 acc, ds[i]? = some x → I i δ2 acc → ∃ js, (∀ j ∈ js, j ∈ vs) ∧ ∀ s0 H0 C cl fp, AG S (BX X scope s0 H0 C cl fp) tg js x δ2 fun δ3 => ∀ s0 H0 C cl fp, ATs S (BX X scope s0 H0 C cl fp) ifs δ3 fun δ4 b =>
    if b = true then ∀ s0 H0 C cl fp, AE S (BX X scope s0 H0 C cl fp) elt δ4 fun δ5 y => I (i + 1) (wipeS δ5 vs) (acc ++ [y]) else I (i + 1) (wipeS δ4 vs) acc) ∧
  ∀ δ2 acc, I ds.length δ2 acc → kf (restS δ1 δ2 vs) (.lst acc)
end AX
namespace AX
open PySem PySem.Spec PyProof.Rows L2 Evl
section
variable {S : Sig} {X : Cx} {δ : Sto} {scope : Scope} {tg elt iter e : Expr} {ifs : List Expr} {pos p1 : Pos} {own : List (Str × Nat)} {kf : Sto → OV → Prop}
abbrev tLcW (X : Cx) (scope : Scope) (tg elt : Expr) (ifs : List Expr) (wi : TI) (vs : List Nat) : TE := tLc wi (WGb X scope tg) (WTb X scope ifs) (WEb X scope elt) vs
/-- what holds between two turns: D is the new list -/
def LcP (S : Sig) (G : Gh) (σ : L2.St) (B1 : Hp) (vs : List Nat) (I : Nat → Sto → List DV → Prop) (D : Addr) (i : Nat) (H : Hp) : Prop :=
  ∃ B2 δ2 acc, Rst S ⟨B1, G.H0, G.L0⟩ (wipe σ vs) B2 H δ2 ∧ New S ⟨B1, G.H0, G.L0⟩ (wipe σ vs) B2 H δ2 (.ref D) (.lst acc) ∧ acc.length ≤ i ∧ I i δ2 acc
theorem comp_turn {G : Gh} {σ : L2.St} {B1 : Hp} {vs : List Nat} {ds : List DV} {I : Nat → Sto → List DV → Prop} (hz : ds.length ≤ 100000)
    (hb : ∀ i x δ2 acc, ds[i]? = some x → I i δ2 acc → ∃ js, (∀ j ∈ js, j ∈ vs) ∧ ∀ s0 H0 C cl fp, AG S (BX X scope s0 H0 C cl fp) tg js x δ2 fun δ3 => ∀ s0 H0 C cl fp, ATs S (BX X scope s0 H0 C cl fp) ifs δ3 fun δ4 b =>
      if b = true then ∀ s0 H0 C cl fp, AE S (BX X scope s0 H0 C cl fp) elt δ4 fun δ5 y => I (i + 1) (wipeS δ5 vs) (acc ++ [y]) else I (i + 1) (wipeS δ4 vs) acc)
    {D : Addr} {i : Nat} {x : V} {y : DV} {H' : Hp} (hy : ds[i]? = some y) (hp : ∃ B2 δ2 acc, Rst S ⟨B1, G.H0, G.L0⟩ (wipe σ vs) B2 H' δ2 ∧ New S ⟨B1, G.H0, G.L0⟩ (wipe σ vs) B2 H' δ2 (.ref D) (.lst acc) ∧ acc.length ≤ i ∧ I i δ2 acc ∧ Rep S B2 x y) :
    WGb X scope tg x (wipe σ vs) H' fun σ2 H2 => wipe σ2 vs = wipe σ vs ∧ WTb X scope ifs σ2 H2 fun b H3 =>
      if b = true then WEb X scope elt σ2 H3 fun y H4 => ∃ acc, H4 D = some (.lst acc) ∧ acc.length < sizeLine ∧ LcP S G σ B1 vs I D (i + 1) (upd H4 D (.lst (acc ++ [y]))) else LcP S G σ B1 vs I D (i + 1) H3 := by
  obtain ⟨B2, δ2, acc, R2, n2, hl, hI, ry⟩ := hp
  obtain ⟨l, el, ⟨va, hv, rv⟩, _⟩ := id n2.ex
  obtain rfl : D = l := by injection el
  have hi : i < ds.length := (List.getElem?_eq_some_iff.mp hy).1
  obtain ⟨js, hj, hb⟩ := hb i y δ2 acc hy hI
  intro s0 H0 C cl fp
  refine (hb s0 H0 C cl fp _ _ B2 H' x (R2.hold n2) ry).imp fun σ2 H2 ⟨⟨l1, l2⟩, B3, δ3, e3, R3, q3⟩ => ⟨wipe_eq (by rw [l1, wipe_length]) l2 hj, fun s0 H0 C cl fp => ?_⟩
  have hw : wipe σ2 vs = wipe σ vs := wipe_eq (by rw [l1, wipe_length]) l2 hj
  refine fun pins s I0 => thn (q3 s0 H0 C cl fp _ σ2 B3 H2 R3 pins s I0) fun b s' ⟨H3, I3, B4, δ4, e4, R4, q4⟩ => ⟨H3, I3, ?_⟩
  cases b with
  | false =>
    rw [if_neg Bool.false_ne_true] at q4 ⊢
    obtain ⟨R5, h5, n5⟩ := R2.held n2 hv rv R4
    have R6 := R5.wipe vs
    rw [hw] at R6
    refine ⟨B4, wipeS δ4 vs, acc, R6, ?_, by omega, q4⟩
    obtain ⟨l, el, m1, m2, m3, m4⟩ := n5
    obtain rfl : D = l := by injection el
    refine ⟨D, rfl, m1, m2, m3, fun j p u hj z => ?_⟩
    rw [wipeS_get] at hj
    by_cases hv : j ∈ vs
    · rw [if_pos hv] at hj; split at hj <;> cases hj
    · rw [if_neg hv] at hj
      rw [← hw, wipe_get, if_neg hv] at z
      exact m4 j p u hj z
  | true =>
    rw [if_pos rfl] at q4 ⊢
    intro s0 H0 C cl fp
    refine (q4 s0 H0 C cl fp _ σ2 B4 H3 R4).imp fun y' H4 ⟨B5, δ5, d5, e5, R5, r5, q5⟩ => ?_
    obtain ⟨R6, h6, n6⟩ := R2.held n2 hv rv R5
    obtain ⟨R7, n7⟩ := n6.push R6 h6 r5 (rv.mono R5.exB)
    refine ⟨va, h6, sz_lt (by rw [rv.length]; omega), B5, wipeS δ5 vs, acc ++ [d5], by rw [← hw]; exact R7.wipe vs, ?_, by simp; omega, q5⟩
    obtain ⟨l, el, m1, m2, m3, m4⟩ := n7
    obtain rfl : D = l := by injection el
    refine ⟨D, rfl, m1, m2, m3, fun j p u hj z => ?_⟩
    rw [wipeS_get] at hj
    by_cases hv : j ∈ vs
    · rw [if_pos hv] at hj; split at hj <;> cases hj
    · rw [if_neg hv] at hj
      rw [← hw, wipe_get, if_neg hv] at z
      exact m4 j p u hj z
/-- what follows a comprehension -/
def LcQ (S : Sig) (G : Gh) (σ : L2.St) (B1 : Hp) (kf : Sto → OV → Prop) (v : V) (H' : Hp) : Prop := ∃ B' δ' o, Ex B1 B' ∧ Rst S G σ B' H' δ' ∧ New S G σ B' H' δ' v o ∧ kf δ' o
theorem comp_start {G : Gh} {σ : L2.St} {B1 H1 : Hp} {δ1 : Sto} {vs : List Nat} {I : Nat → Sto → List DV → Prop} {D : Addr} (R1 : Rst S G σ B1 H1 δ1) (hD : H1 D = none) (i0 : I 0 (wipeS δ1 vs) []) : LcP S G σ B1 vs I D 0 (upd H1 D (.lst [])) :=
  ⟨B1, wipeS δ1 vs, [], (R1.rebase.wipe vs).fresh hD, New.lst (R1.rebase.wipe vs) hD .nil, Nat.le_refl _, i0⟩
theorem comp_end {G : Gh} {σ : L2.St} {B1 H1 H : Hp} {δ1 : Sto} {vs : List Nat} {I : Nat → Sto → List DV → Prop} {D : Addr} {n : Nat} (R1 : Rst S G σ B1 H1 δ1) (no : NoOwn δ1 vs) (hp : LcP S G σ B1 vs I D n H) (hk : ∀ δ2 acc, I n δ2 acc → kf (restS δ1 δ2 vs) (.lst acc)) : LcQ S G σ B1 kf (.ref D) H := by
  obtain ⟨B2, δ2, acc, R2, n2, hl, hI⟩ := hp
  refine ⟨B2, restS δ1 δ2 vs, .lst acc, R2.exB, R1.rest no R2, ?_, hk δ2 acc hI⟩
  obtain ⟨l, el, m1, m2, m3, m4⟩ := n2
  obtain rfl : D = l := by injection el
  refine ⟨D, rfl, m1, m2, m3, fun j p u hj z => ?_⟩
  have hlt : j < δ2.length := by
    have := (List.getElem?_eq_some_iff.mp hj).1
    unfold restS at this; simpa using this
  have hl1 : δ2.length = δ1.length := by rw [← R2.len, wipe_length, R1.len]
  rw [restS_get hlt] at hj
  by_cases hv : j ∈ vs
  · rw [if_pos hv, List.getD_eq_getElem?_getD, List.getElem?_eq_getElem (by omega)] at hj
    exact no j hv p u (by rw [List.getElem?_eq_getElem (by omega)]; simpa using hj)
  · rw [if_neg hv, List.getD_eq_getElem?_getD, List.getElem?_eq_getElem hlt] at hj
    exact m4 j p u (by rw [List.getElem?_eq_getElem hlt]; simpa using hj) (by rw [wipe_get, if_neg hv]; exact z)
/-- sources: a list, a tuple, a range -/
inductive Src (S : Sig) (X : Cx) (iter : Expr) (δ : Sto) (K : List DV → Sto → Prop) : Prop where
  | lst (h : AE S X iter δ fun δ1 d => ∃ ds, d = .lst ds ∧ K ds δ1)
  | tup (h : AE S X iter δ fun δ1 d => ∃ ds, d = .tup ds ∧ K ds δ1)
theorem lcL (hK : X.K = S.K) (vs : List Nat) (h : AE S X iter δ fun δ1 d => ∃ ds, d = .lst ds ∧ Comp S X scope tg elt ifs vs ds δ1 kf) {G : Gh} {σ : L2.St} {B H : Hp} (R : Rst S G σ B H δ) : tLcW X scope tg elt ifs (iList X.K (WE X iter)) vs σ H (LcQ S G σ B kf) := by
  refine (h G σ B H R).imp fun v H1 ⟨B1, δ1, d, e1, R1, r, ds, hd, hz, no, I, i0, hb, hk⟩ => ?_
  subst hd
  obtain ⟨a, xs, rfl, hx, hr⟩ := r.lst_inv
  refine ⟨a, rfl, ⟨xs, sq_of (R1.ex _ _ hx)⟩, fun D hD => ?_⟩
  refine lc_list (K := X.K) (a := a) (xs := xs) (LcP S G σ B1 vs I D) (comp_start R1 hD i0) (fun i H _ ⟨B2, δ2, acc, R2, _⟩ => sq_of (R2.ex _ _ (R2.exB _ _ hx))) (fun i x H' hi hp => ?_) fun H' hp => ?_
  · obtain ⟨y, hy, ry⟩ := hr.get' hi
    obtain ⟨B2, δ2, acc, R2, n2, hl, hI⟩ := hp
    exact comp_turn hz hb hy ⟨B2, δ2, acc, R2, n2, hl, hI, ry.mono R2.exB⟩
  · obtain ⟨B', δ', o, e2, q⟩ := comp_end R1 no hp (by rw [hr.length]; exact hk)
    exact ⟨B', δ', o, e1.trans e2, q⟩
theorem lcT (hK : X.K = S.K) (vs : List Nat) (h : AE S X iter δ fun δ1 d => ∃ ds, d = .tup ds ∧ Comp S X scope tg elt ifs vs ds δ1 kf) {G : Gh} {σ : L2.St} {B H : Hp} (R : Rst S G σ B H δ) : tLcW X scope tg elt ifs (iTup X.K (WE X iter)) vs σ H (LcQ S G σ B kf) := by
  refine (h G σ B H R).imp fun v H1 ⟨B1, δ1, d, e1, R1, r, ds, hd, hz, no, I, i0, hb, hk⟩ => ?_
  subst hd
  obtain ⟨a, xs, rfl, hx, hr⟩ := r.tup_inv
  refine ⟨a, rfl, ⟨xs, by rw [hK]; exact ex_t R1.ex hx⟩, fun D hD => ?_⟩
  refine lc_tup (K := X.K) (a := a) (xs := xs) (LcP S G σ B1 vs I D) (comp_start R1 hD i0) (fun i H _ ⟨B2, δ2, acc, R2, _⟩ => by rw [hK]; exact ex_t R2.ex (ex_t R2.exB hx)) (fun i x H' hi hp => ?_) fun H' hp => ?_
  · obtain ⟨y, hy, ry⟩ := hr.get' hi
    obtain ⟨B2, δ2, acc, R2, n2, hl, hI⟩ := hp
    exact comp_turn hz hb hy ⟨B2, δ2, acc, R2, n2, hl, hI, ry.mono R2.exB⟩
  · obtain ⟨B', δ', o, e2, q⟩ := comp_end R1 no hp (by rw [hr.length]; exact hk)
    exact ⟨B', δ', o, e1.trans e2, q⟩
theorem lcR (hst : starEach [e] X.env = (false, eval e X.env) :: starEach [] X.env) (vs : List Nat) (h : AE S X e δ fun δ1 d => ∃ n : Int, d = .int n ∧ -1000000 ≤ n ∧ n ≤ 1000000 ∧ Comp S X scope tg elt ifs vs (rngD 0 n.toNat) δ1 kf) {G : Gh} {σ : L2.St} {B H : Hp} (R : Rst S G σ B H δ) : tLcW X scope tg elt ifs (iRng1 (tCons (WE X e) tNil)) vs σ H (LcQ S G σ B kf) := by
  refine (h G σ B H R).imp fun v H1 ⟨B1, δ1, d, e1, R1, r, n, hd, hn0, hn, hz, no, I, i0, hb, hk⟩ => ?_
  subst hd
  rw [r.int_inv]
  refine ⟨n, rfl, by omega, by omega, fun D hD => ?_⟩
  refine lc_range (lo := 0) (n := n.toNat) (LcP S G σ B1 vs I D) (comp_start R1 hD i0) (fun i H' hi ⟨B2, δ2, acc, R2, n2, hl, hI⟩ => comp_turn hz hb (rngD_get hi) ⟨B2, δ2, acc, R2, n2, hl, hI, .int _⟩) fun H' hp => ?_
  obtain ⟨B', δ', o, e2, q⟩ := comp_end R1 no hp (by rw [rngD_len] at hk; exact hk)
  exact ⟨B', δ', o, e1.trans e2, q⟩
theorem he_b : ∀ (s : Shared) (H : Hp) (C : Addr) (cl : List (Str × Addr)) (fp : List Addr), PE (X.blk s H scope (compEnvC scope cl C X.env) fp) elt (WEb X scope elt) := fun s H C cl fp => ⟨fun pins s' σ H' Q I h => h s H C cl fp pins s' I⟩
theorem hg_b : ∀ (s : Shared) (H : Hp) (C : Addr) (cl : List (Str × Addr)) (fp : List Addr), PG (X.blk s H scope (compEnvC scope cl C X.env) fp) tg (WGb X scope tg) := fun s H C cl fp => ⟨fun pins s' σ H' v u Q I r h => h s H C cl fp pins s' u I r⟩
theorem ht_b : ∀ (s : Shared) (H : Hp) (C : Addr) (cl : List (Str × Addr)) (fp : List Addr), PTs (X.blk s H scope (compEnvC scope cl C X.env) fp) ifs (WTb X scope ifs) := fun s H C cl fp => ⟨fun pins s' σ H' Q I h => h s H C cl fp pins s' I⟩
variable (own)
theorem AF.lcL (hc : X.calm = true) (hN : X.N.Nodup) (hK : X.K = S.K) (ok : BlkOk X.N X.env.scope scope own) (h : AE S X iter δ fun δ1 d => ∃ ds, d = .lst ds ∧ Comp S X scope tg elt ifs (own.map (·.2)) ds δ1 kf) (hs : ∀ x, foldedSetIterable iter X.env x = pure x := by intro _; rfl) : AF S X (.ListComp elt [⟨tg, iter, ifs, 0⟩] scope pos) δ kf := fun G σ B H R =>
  WE.of (pe_lc hc hN (pi_list (pw_e iter)) ok hg_b ht_b he_b hs) (AX.lcL hK _ h R)
theorem AF.lcT (hc : X.calm = true) (hN : X.N.Nodup) (hK : X.K = S.K) (ok : BlkOk X.N X.env.scope scope own) (h : AE S X iter δ fun δ1 d => ∃ ds, d = .tup ds ∧ Comp S X scope tg elt ifs (own.map (·.2)) ds δ1 kf) (hs : ∀ x, foldedSetIterable iter X.env x = pure x := by intro _; rfl) : AF S X (.ListComp elt [⟨tg, iter, ifs, 0⟩] scope pos) δ kf := fun G σ B H R =>
  WE.of (pe_lc hc hN (pi_tup (pw_e iter)) ok hg_b ht_b he_b hs) (AX.lcT hK _ h R)
theorem AF.lcR {p : Pos} (hc : X.calm = true) (hN : X.N.Nodup) (hm : X.mg "range" = none) (ok : BlkOk X.N X.env.scope scope own) (h : AE S X e δ fun δ1 d => ∃ n : Int, d = .int n ∧ -1000000 ≤ n ∧ n ≤ 1000000 ∧ Comp S X scope tg elt ifs (own.map (·.2)) (rngD 0 n.toNat) δ1 kf) (hg : Gl X "range" := by rfl)
    (hst : starEach [e] X.env = (false, eval e X.env) :: starEach [] X.env := by rfl) (hs : ∀ x, foldedSetIterable (.Call (.Name "range" p) [e] [] p1) X.env x = pure x := by intro _; rfl) : AF S X (.ListComp elt [⟨tg, .Call (.Name "range" p) [e] [] p1, ifs, 0⟩] scope pos) δ kf := fun G σ B H R =>
  WE.of (pe_lc hc hN (pi_range1 hg hm (pa_cons (pw_e e) pa_nil hst) (hs := hst)) ok hg_b ht_b he_b hs) (AX.lcR hst _ h R)
/-! name = [..] -/
theorem setLc_fin {G : Gh} {σ : L2.St} {B : Hp} {i : Nat} {x : Str} {D : AEnds} {pins : List (Addr × Obj)} {H : Hp} {s : Shared} (I : Inv X pins σ H s) (hN : X.N[i]? = some x) : ∀ v H', LcQ S G σ B (fun δ1 o => D.nx (δ1.set i (some (.own none o)))) v H' → gName i v σ H' (conc S G D).nx := fun v H' ⟨B', δ', o, e, R, n, q⟩ =>
  ⟨B', _, R.putF (by rw [← R.len, I.len]; exact (List.getElem?_eq_some_iff.mp hN).1) n, q⟩
theorem tLc_mono {wi : TI} {g : TG} {tt : TT} {te : TE} {vs : List Nat} {σ : L2.St} {H : Hp} {Q Q' : VK} (hm : ∀ R R', (∀ J H, R J H → R' J H) → wi σ H R → wi σ H R') (k : ∀ v H, Q v H → Q' v H) (h : tLc wi g tt te vs σ H Q) : tLc wi g tt te vs σ H Q' := by
  refine hm _ _ (fun J H1 q D hD => ?_) h
  obtain ⟨W, w0, t⟩ := q D hD
  refine ⟨W, w0, fun i m H hw => ?_⟩
  rcases t i m H hw with ⟨a, b⟩ | z
  · exact .inl ⟨a, k _ _ b⟩
  · exact .inr z
theorem mono_rng {σ : L2.St} {H : Hp} : ∀ (R R' : It → Hp → Prop), (∀ J H, R J H → R' J H) → iRng1 (tCons (WE X e) tNil) σ H R → iRng1 (tCons (WE X e) tNil) σ H R' := fun R R' k h =>
  WE.imp (X := X) (e := e) (Q := fun x H1 => tNil σ H1 fun xs H2 => ∃ j : Int, x :: xs = [.int j] ∧ -(2 ^ 62) ≤ j ∧ j < 2 ^ 62 ∧ R (Itr 0 j.toNat) H2) h fun v H ⟨j, e1, e2, e3, e4⟩ => ⟨j, e1, e2, e3, k _ _ e4⟩
variable {D : AEnds}
theorem DoS.setLcL (i : Nat) {y : Str} {py spos : Pos} (hc : X.calm = true) (hN : X.N.Nodup) (hK : X.K = S.K) (ok : BlkOk X.N X.env.scope scope own) (h : AE S X iter δ fun δ1 d => ∃ ds, d = .lst ds ∧ Comp S X scope tg elt ifs (own.map (·.2)) ds δ1 fun δ1 o => D.nx (δ1.set i (some (.own none o)))) (hy : X.N[i]? = some y := by rfl) (hyl : X.env.scope.names.lookup y = some .local := by rfl)
    (hsw : swapsWith (.ListComp elt [⟨tg, iter, ifs, 0⟩] scope pos) (some (.Name y py)) spos.line X.env = pure true := by exact sw_true rfl rfl rfl (by decide +kernel)) (hs : ∀ x, foldedSetIterable iter X.env x = pure x := by intro _; rfl) : DoS S X (.Assign [.Name y py] (.ListComp elt [⟨tg, iter, ifs, 0⟩] scope pos) spos) δ D := fun G σ B H R pins s I =>
  (WS.of (ps_setLc hc hN hy hyl hsw (pi_list (pw_e iter)) ok hg_b ht_b he_b hs) (tLc_mono (fun R R' k h => h.imp fun v H ⟨a, e1, e2, e3⟩ => ⟨a, e1, e2, k _ _ e3⟩) (setLc_fin I hy) (AX.lcL hK _ h R))) pins s I
theorem DoS.setLcT (i : Nat) {y : Str} {py spos : Pos} (hc : X.calm = true) (hN : X.N.Nodup) (hK : X.K = S.K) (ok : BlkOk X.N X.env.scope scope own) (h : AE S X iter δ fun δ1 d => ∃ ds, d = .tup ds ∧ Comp S X scope tg elt ifs (own.map (·.2)) ds δ1 fun δ1 o => D.nx (δ1.set i (some (.own none o)))) (hy : X.N[i]? = some y := by rfl) (hyl : X.env.scope.names.lookup y = some .local := by rfl)
    (hsw : swapsWith (.ListComp elt [⟨tg, iter, ifs, 0⟩] scope pos) (some (.Name y py)) spos.line X.env = pure true := by exact sw_true rfl rfl rfl (by decide +kernel)) (hs : ∀ x, foldedSetIterable iter X.env x = pure x := by intro _; rfl) : DoS S X (.Assign [.Name y py] (.ListComp elt [⟨tg, iter, ifs, 0⟩] scope pos) spos) δ D := fun G σ B H R pins s I =>
  (WS.of (ps_setLc hc hN hy hyl hsw (pi_tup (pw_e iter)) ok hg_b ht_b he_b hs) (tLc_mono (fun R R' k h => h.imp fun v H ⟨a, e1, e2, e3⟩ => ⟨a, e1, e2, k _ _ e3⟩) (setLc_fin I hy) (AX.lcT hK _ h R))) pins s I
theorem DoS.setLcR (i : Nat) {y : Str} {py spos p : Pos} (hc : X.calm = true) (hN : X.N.Nodup) (hm : X.mg "range" = none) (ok : BlkOk X.N X.env.scope scope own) (h : AE S X e δ fun δ1 d => ∃ n : Int, d = .int n ∧ -1000000 ≤ n ∧ n ≤ 1000000 ∧ Comp S X scope tg elt ifs (own.map (·.2)) (rngD 0 n.toNat) δ1 fun δ1 o => D.nx (δ1.set i (some (.own none o)))) (hg : Gl X "range" := by rfl) (hy : X.N[i]? = some y := by rfl) (hyl : X.env.scope.names.lookup y = some .local := by rfl)
    (hst : starEach [e] X.env = (false, eval e X.env) :: starEach [] X.env := by rfl) (hsw : swapsWith (.ListComp elt [⟨tg, .Call (.Name "range" p) [e] [] p1, ifs, 0⟩] scope pos) (some (.Name y py)) spos.line X.env = pure true := by exact sw_true rfl rfl rfl (by decide +kernel)) (hs : ∀ x, foldedSetIterable (.Call (.Name "range" p) [e] [] p1) X.env x = pure x := by intro _; rfl) : DoS S X (.Assign [.Name y py] (.ListComp elt [⟨tg, .Call (.Name "range" p) [e] [] p1, ifs, 0⟩] scope pos) spos) δ D := fun G σ B H R pins s I =>
  (WS.of (ps_setLc hc hN hy hyl hsw (pi_range1 hg hm (pa_cons (pw_e e) pa_nil hst) (hs := hst)) ok hg_b ht_b he_b hs) (tLc_mono (mono_rng (X := X) (e := e)) (setLc_fin I hy) (AX.lcR hst _ h R))) pins s I
end
/-- a comprehension whose tests and elements change nothing: what it makes of each item -/
theorem Comp.pure {S : Sig} {X : Cx} {δ1 : Sto} {scope : Scope} {tg elt : Expr} {ifs : List Expr} {vs : List Nat} {ds : List DV} {kf : Sto → OV → Prop} (js : List Nat) (hj : ∀ j ∈ js, j ∈ vs) (f : Nat → DV → Option DV) (hz : ds.length ≤ 100000) (no : NoOwn δ1 vs)
    (h : ∀ i x, ds[i]? = some x → ∀ s0 H0 C cl fp, AG S (BX X scope s0 H0 C cl fp) tg js x (wipeS δ1 vs) fun δ3 => ∀ s0 H0 C cl fp, ATs S (BX X scope s0 H0 C cl fp) ifs δ3 fun δ4 b => wipeS δ4 vs = wipeS δ1 vs ∧ if b = true then ∀ s0 H0 C cl fp, AE S (BX X scope s0 H0 C cl fp) elt δ4 fun δ5 y => wipeS δ5 vs = wipeS δ1 vs ∧ f i x = some y else f i x = none)
    (hk : ∀ acc, acc = (ds.zipIdx.filterMap fun p => f p.2 p.1) → kf δ1 (.lst acc)) : Comp S X scope tg elt ifs vs ds δ1 kf := by
  have tk : ∀ (i : Nat) (x : DV), ds[i]? = some x → ((ds.zipIdx.take (i + 1)).filterMap fun p => f p.2 p.1) = ((ds.zipIdx.take i).filterMap fun p => f p.2 p.1) ++ (f i x).toList := fun i x hx => by
    rw [List.take_add_one, List.filterMap_append, List.getElem?_zipIdx, hx]
    simp only [Option.map_some, Option.toList_some, List.filterMap_cons, List.filterMap_nil, Nat.zero_add]
    cases f i x <;> rfl
  refine ⟨hz, no, fun i δ2 acc => δ2 = wipeS δ1 vs ∧ acc = ((ds.zipIdx.take i).filterMap fun p => f p.2 p.1), ⟨rfl, by simp⟩, ?_, ?_⟩
  · rintro i x δ2 acc hx ⟨rfl, rfl⟩
    refine ⟨js, hj, fun s0 H0 C cl fp G σ B H v R r => (h i x hx s0 H0 C cl fp G σ B H v R r).imp fun σ' H' ⟨l, B', δ', e, R', q⟩ => ⟨l, B', δ', e, R', fun s0 H0 C cl fp G σ B H R => ?_⟩⟩
    refine fun pins s I => thn (q s0 H0 C cl fp G σ B H R pins s I) fun b s' ⟨H3, I3, B4, δ4, e4, R4, q4, q5⟩ => ⟨H3, I3, B4, δ4, e4, R4, ?_⟩
    cases b with
    | true =>
      rw [if_pos rfl] at q5 ⊢
      intro s0 H0 C cl fp
      exact (q5 s0 H0 C cl fp).imp fun δ5 y ⟨h1, h2⟩ => ⟨h1, by rw [tk i x hx, h2] <;> rfl⟩
    | false =>
      rw [if_neg Bool.false_ne_true] at q5 ⊢
      exact ⟨q4, by rw [tk i x hx, q5]; simp⟩
  · rintro δ2 acc ⟨rfl, rfl⟩
    rw [restS_wipe]
    refine hk _ ?_
    rw [List.take_of_length_le (by simp)]
end AX
namespace AX
open PySem PySem.Spec PyProof.Rows L2 Evl
/-! ## a def's promise over abstract arguments: W args (what follows from the own things behind and the answer) -/
abbrev AW1 := List AV → (List OV → AV → Prop) → Prop
def ownA : List V → List AV → List Addr
  | .ref l :: vs, .own _ _ :: avs => l :: ownA vs avs
  | _ :: vs, _ :: avs => ownA vs avs
  | _, _ => []
def ownO : List AV → List OV
  | .own _ o :: avs => o :: ownO avs
  | .imm _ :: avs => ownO avs
  | [] => []
def ArgA (S : Sig) (B H : Hp) (v : V) : AV → Prop
  | .imm d => Rep S B v d
  | .own _ o => ∃ l, v = .ref l ∧ OvAt S B H l o ∧ B l = none
/-- own parameters are numbered from 0 -/
def Numb : Nat → List AV → Prop
  | _, [] => True
  | n, .imm _ :: avs => Numb n avs
  | n, .own p _ :: avs => p = some n ∧ Numb (n + 1) avs
def RetN (S : Sig) (B H H0 : Hp) (v : V) : AV → Prop
  | .imm d => Rep S B v d
  | .own _ o => ∃ l, v = .ref l ∧ OvAt S B H l o ∧ B l = none ∧ Nn H0 l
def OwnBack (S : Sig) (B H : Hp) (ls : List Addr) (os : List OV) : Prop := Paired (fun l o => OvAt S B H l o ∧ B l = none) ls os
def spA (S : Sig) (n : Nat) (W : AW1) : Sp := fun vs H Q _ => ∃ (B : Hp) (avs : List AV) (k : List OV → AV → Prop), Ex B H ∧ NoTbl B ∧ LamX.Tabs S.T H ∧ vs.length = n ∧ Paired (ArgA S B H) vs avs ∧ Numb 0 avs ∧ (ownA vs avs).Nodup ∧ W avs k ∧
  ∀ v B' H' os r, Ex B B' → NoTbl B' → Ex B' H' → LamX.Tabs S.T H' → Kp (ownA vs avs) H H' → (∀ a, ¬ Nn H a → ¬ Nn H' a) → (∀ a, B' a ≠ none → B a = none → Nn H a) → OwnBack S B' H' (ownA vs avs) os → RetN S B' H' H v r → k os r → Q v H'
/-- the names at the def's start -/
def startS (n : Nat) (avs : List AV) : Sto := avs.map some ++ List.replicate (n - avs.length) none
section
variable {S : Sig}
theorem numb_get : ∀ {avs : List AV} {n i : Nat} {p : Option Nat} {o : OV}, Numb n avs → avs[i]? = some (.own p o) → ∃ j, p = some j ∧ n ≤ j
  | [], _, _, _, _, _, h => by simp at h
  | .imm _ :: avs, n, 0, p, o, hn, h => by cases h
  | .imm _ :: avs, n, i + 1, p, o, hn, h => numb_get (avs := avs) (n := n) (i := i) hn (by simpa using h)
  | .own q _ :: avs, n, 0, p, o, hn, h => by
    cases h
    exact ⟨n, hn.1, Nat.le_refl n⟩
  | .own q _ :: avs, n, i + 1, p, o, hn, h => by
    obtain ⟨j, h1, h2⟩ := numb_get (avs := avs) (n := n + 1) (i := i) hn.2 (by simpa using h)
    exact ⟨j, h1, by omega⟩
/-- where the own parameters lie -/
theorem own_at {B H : Hp} : ∀ {vs : List V} {avs : List AV} {n i : Nat} {p : Option Nat} {o : OV}, Paired (ArgA S B H) vs avs → Numb n avs → avs[i]? = some (.own p o) → ∃ l j, vs[i]? = some (.ref l) ∧ OvAt S B H l o ∧ B l = none ∧ p = some (n + j) ∧ (ownA vs avs)[j]? = some l
  | _, [], _, _, _, _, _, _, h => by simp at h
  | _ :: vs, .imm d :: avs, n, 0, p, o, _, hn, h => by cases h
  | v :: vs, .imm d :: avs, n, i + 1, p, o, .cons r rs, hn, h => by
    obtain ⟨l, j, h1, h2, h3, h4, h5⟩ := own_at (i := i) rs hn (by simpa using h)
    refine ⟨l, j, by simpa using h1, h2, h3, h4, ?_⟩
    cases v <;> exact h5
  | v :: vs, .own q u :: avs, n, 0, p, o, .cons r rs, hn, h => by
    cases h
    obtain ⟨l, rfl, h1, h2⟩ := r
    exact ⟨l, 0, rfl, h1, h2, hn.1, rfl⟩
  | v :: vs, .own q u :: avs, n, i + 1, p, o, .cons r rs, hn, h => by
    obtain ⟨l, j, h1, h2, h3, h4, h5⟩ := own_at (i := i) rs hn.2 (by simpa using h)
    obtain ⟨l0, rfl, _⟩ := r
    exact ⟨l, j + 1, by simpa using h1, h2, h3, by rw [h4]; congr 1; omega, h5⟩
theorem own_some {B H : Hp} : ∀ {vs : List V} {avs : List AV} {a : Addr}, Paired (ArgA S B H) vs avs → a ∈ ownA vs avs → ¬ Nn H a
  | _, [], a, .nil, h => by simp [ownA] at h
  | v :: vs, .imm d :: avs, a, .cons r rs, h => own_some (vs := vs) rs (by cases v <;> exact h)
  | v :: vs, .own q u :: avs, a, .cons r rs, h => by
    obtain ⟨l, rfl, h1, h2⟩ := r
    rcases List.mem_cons.mp h with rfl | h
    · exact h1.nn
    · exact own_some rs h
theorem paired_get {α β : Type} {F : α → β → Prop} : ∀ {xs : List α} {ys : List β} {i : Nat} {y : β}, Paired F xs ys → ys[i]? = some y → ∃ x, xs[i]? = some x ∧ F x y
  | _, _, _, _, .nil, h => by simp at h
  | _, _, 0, _, .cons r _, h => by cases h; exact ⟨_, rfl, r⟩
  | _, _, i + 1, y, .cons _ t, h => by
    obtain ⟨x, h1, h2⟩ := paired_get (i := i) t (by simpa using h)
    exact ⟨x, by simpa using h1, h2⟩
theorem paired_mk {α β : Type} {F : α → β → Prop} : ∀ {xs : List α} {ys : List β}, xs.length = ys.length → (∀ (i : Nat) (x : α) (y : β), xs[i]? = some x → ys[i]? = some y → F x y) → Paired F xs ys
  | [], [], _, _ => .nil
  | x :: xs, y :: ys, hl, h => .cons (h 0 x y rfl rfl) (paired_mk (by simpa using hl) fun i a b h1 h2 => h (i + 1) a b (by simpa using h1) (by simpa using h2))
  | [], _ :: _, hl, _ => by simp at hl
  | _ :: _, [], hl, _ => by simp at hl
/-- the state at a def's start -/
theorem rst_start {N : List Str} {B H : Hp} {vs : List V} {avs : List AV} (h1 : Ex B H) (h2 : NoTbl B) (h3 : LamX.Tabs S.T H) (h5 : Paired (ArgA S B H) vs avs) (h6 : Numb 0 avs) (h7 : (ownA vs avs).Nodup) : Rst S ⟨B, H, ownA vs avs⟩ (L2.start N vs) B H (startS N.length avs) := by
  have hl : vs.length = avs.length := Paired.length h5
  have g : ∀ (i : Nat) (av : AV), (startS N.length avs)[i]? = some (some av) → avs[i]? = some av := fun i av h => by
    unfold startS at h
    by_cases hi : i < avs.length
    · rw [List.getElem?_append_left (by simpa using hi), List.getElem?_map] at h
      rw [List.getElem?_eq_getElem hi] at h ⊢
      simpa using h
    · rw [List.getElem?_append_right (by simpa using hi), List.getElem?_replicate] at h
      split at h <;> cases h
  have sg : ∀ (i : Nat) (v : V), vs[i]? = some v → (L2.start N vs)[i]? = some (some v) := fun i v h => by
    unfold L2.start
    have hi := (List.getElem?_eq_some_iff.mp h).1
    rw [List.getElem?_append_left (by simpa using hi), List.getElem?_map, h] <;> rfl
  refine ⟨Ex.refl B, h2, h1, h3, Kp.refl _ H, fun a h => h, fun a h => own_some h5 h, fun a x y => absurd y x, by unfold L2.start startS; simp [hl], fun i av h => ?_, fun i j l p o p' o' a1 a2 a3 a4 => ?_⟩
  · have h := g i av h
    cases av with
    | imm d =>
      obtain ⟨v, q1, q2⟩ := paired_get h5 h
      exact ⟨v, sg i v q1, q2⟩
    | own p o =>
      obtain ⟨l, j, q1, q2, q3, q4, q5⟩ := own_at h5 h6 h
      refine ⟨l, sg i _ q1, q2, q3, ?_⟩
      rw [q4, Nat.zero_add]; exact q5
  · obtain ⟨l1, j1, q1, _, _, e1, q2⟩ := own_at h5 h6 (g i _ a1)
    obtain ⟨l2, j2, r1, _, _, e2, r2⟩ := own_at h5 h6 (g j _ a2)
    have x1 := (sg i _ q1).symm.trans a3
    have x2 := (sg j _ r1).symm.trans a4
    have y1 : l1 = l := by injection (Option.some.inj (Option.some.inj x1))
    have y2 : l2 = l := by injection (Option.some.inj (Option.some.inj x2))
    subst y1 y2
    have ej : j1 = j2 := (List.getElem?_inj (List.getElem?_eq_some_iff.mp q2).1 h7).mp (q2.trans r2.symm)
    subst ej
    -- two slots with one number
    have uniq : ∀ {avs : List AV} {n i j m : Nat} {o o' : OV}, Numb n avs → avs[i]? = some (.own (some m) o) → avs[j]? = some (.own (some m) o') → i = j := by
      intro avs
      induction avs with
      | nil => intro n i j m o o' _ h; simp at h
      | cons av avs ih =>
        intro n i j m o o' hn hi hj
        cases av with
        | imm d =>
          cases i with
          | zero => cases hi
          | succ i =>
            cases j with
            | zero => cases hj
            | succ j => exact congrArg Nat.succ (ih (n := n) hn (by simpa using hi) (by simpa using hj))
        | own q u =>
          cases i with
          | zero =>
            cases j with
            | zero => rfl
            | succ j =>
              cases hi
              obtain ⟨k, e, hk⟩ := numb_get (i := j) hn.2 (by simpa using hj)
              have := hn.1
              cases e; cases this; omega
          | succ i =>
            cases j with
            | zero =>
              cases hj
              obtain ⟨k, e, hk⟩ := numb_get (i := i) hn.2 (by simpa using hi)
              have := hn.1
              cases e; cases this; omega
            | succ j => exact congrArg Nat.succ (ih (n := n + 1) hn.2 (by simpa using hi) (by simpa using hj))
    have b1 := g i _ a1
    have b2 := g j _ a2
    rw [e1] at b1
    rw [e2] at b2
    exact uniq h6 b1 b2
variable {P : Program} {w : World} {mg : Str → Option Value} {base : Heap}
/-- the def's end: every own parameter lies somewhere still -/
def Fin (avs : List AV) (k : List OV → AV → Prop) : AEnds where
  nx := fun δ => ∃ os, (∀ (j : Nat) (o : OV), os[j]? = some o → ∃ i : Nat, δ[i]? = some (some (AV.own (some j) o))) ∧ os.length = (ownO avs).length ∧ k os (.imm .non)
  rt := fun δ r => ∃ os, (∀ (j : Nat) (o : OV), os[j]? = some o → ∃ i : Nat, δ[i]? = some (some (AV.own (some j) o))) ∧ os.length = (ownO avs).length ∧ k os r
theorem ownA_len {B H : Hp} : ∀ {vs : List V} {avs : List AV}, Paired (ArgA S B H) vs avs → (ownA vs avs).length = (ownO avs).length
  | _, _, .nil => rfl
  | v :: vs, .imm d :: avs, .cons r rs => by
    have q := ownA_len rs
    cases v <;> exact q
  | v :: vs, .own q u :: avs, .cons r rs => by
    obtain ⟨l, rfl, _⟩ := r
    exact congrArg Nat.succ (ownA_len rs)
theorem fin_back {G : Gh} {σ : L2.St} {B H : Hp} {δ : Sto} {os : List OV} (R : Rst S G σ B H δ) (h : ∀ (j : Nat) (o : OV), os[j]? = some o → ∃ i : Nat, δ[i]? = some (some (AV.own (some j) o))) (hl : os.length = G.L0.length) : OwnBack S B H G.L0 os :=
  paired_mk hl.symm fun j l o h1 h2 => by
    obtain ⟨i, hi⟩ := h j o h2
    obtain ⟨l', q1, q2, q3, q4⟩ := R.sl i _ hi
    have q4 : G.L0[j]? = some l' := q4
    rw [h1] at q4
    cases q4
    exact ⟨q2, q3⟩
theorem fn_ok {x qual : Str} {st : Stmt} {f : Addr} {fd : FuncData} {N ps : List Str} {k : Nat} {W : AW1} (F : L2.Fun S.K x qual st f fd) (SC : FnScope N ps (defScope st))
    (hbody : ∀ (cdv : Value) (A : Around) (outer : List Env) (s : Shared) (H : Hp) (E : XK), Room k (A.deeper (envOfC qual (defScope st) s.heap.objs.size f cdv)) → ∀ avs kk, avs.length = ps.length → W avs kk →
      Do S (cxOf CX0 P w S.K mg base N qual (defScope st) f cdv A outer s H E).nox (defBody st) (startS N.length avs) (Fin avs kk)) : FnOk P w S.K mg base CX0 (k + 1) f fd ps (spA S ps.length W) := by
  refine F.ok SC (fun vs H Q E h => ?_) (fun cdv A outer s H vs Q E hr h => ?_)
  · obtain ⟨B, avs, kk, _, _, _, hl, _⟩ := h
    exact hl
  · obtain ⟨B, avs, kk, h1, h2, h3, h4, h5, h6, h7, h8, h9⟩ := h
    have R := rst_start (N := N) h1 h2 h3 h5 h6 h7
    refine ⟨_, pw_ss _, ?_⟩
    have q := hbody cdv A outer s H E hr avs kk (by rw [← h4]; exact (Paired.length h5).symm) h8 _ _ B H R
    refine fun pins s1 I => thn (q pins s1 I) fun fl s' z => ?_
    have fin : ∀ {σ' : L2.St} {B' H' : Hp} {δ' : Sto} {v : V} {r : AV} {os : List OV}, Rst S ⟨B, H, ownA vs avs⟩ σ' B' H' δ' → RetN S B' H' H v r → (∀ (j : Nat) (o : OV), os[j]? = some o → ∃ i : Nat, δ'[i]? = some (some (AV.own (some j) o))) → os.length = (ownO avs).length → kk os r → Q v H' :=
      fun {σ' B' H' δ' v r os} R' hr' ho hl hk => h9 v B' H' os r R'.exB R'.nt R'.ex R'.tab R'.keep R'.al R'.fr (fin_back R' ho (by rw [hl]; exact (ownA_len h5).symm)) hr' hk
    cases fl with
    | next =>
      obtain ⟨σ', H', I', B', δ', R', os, ho, hl, hk⟩ := z
      exact ⟨σ', H', I', fin R' (show RetN S B' H' H .non (.imm .non) from .non) ho hl hk⟩
    | brk => obtain ⟨_, _, _, _, _, _, z⟩ := z; exact z.elim
    | cont => obtain ⟨_, _, _, _, _, _, z⟩ := z; exact z.elim
    | ret u =>
      obtain ⟨v, σ', H', I', rv, σ2, B', δ', r, R', ro, os, ho, hl, hk⟩ := z
      refine ⟨v, σ', H', I', rv, fin R' ?_ ho hl hk⟩
      cases r with
      | imm d => exact ro
      | own p o => exact ro
/-- a def that may be called -/
structure Can (P : Program) (w : World) (mg : Str → Option Value) (base : Heap) (S : Sig) (k : Nat) (x : Str) (ps : List Str) (W : AW1) : Prop where
  ex : ∃ f fd, FnOk P w S.K mg base CX0 k f fd ps (spA S ps.length W) ∧ mg x = some (.ref f) ∧ PySem.W.keepIn S.K (.ref f) = true ∧ Binds S.K fd ps []
theorem Can.mono {k k' : Nat} {x : Str} {ps : List Str} {W : AW1} (C : Can P w mg base S k x ps W) (h : k ≤ k') : Can P w mg base S k' x ps W := by
  obtain ⟨f, fd, h1, h2⟩ := C.ex
  exact ⟨f, fd, h1.mono h, h2⟩
end
end AX
namespace AX
open PySem PySem.Spec PyProof.Rows L2 Evl
/-! ## the call of a def -/
def ownI : List Arg → List Nat
  | [] => []
  | .d _ :: as => ownI as
  | .o i :: as => i :: ownI as
def setO (δ : Sto) (i : Nat) (o : OV) : Sto := match δ[i]? with
  | some (some (.own p _)) => δ.set i (some (.own p o))
  | _ => δ
def backI (δ : Sto) : List Nat → List OV → Sto
  | i :: is, o :: os => setO (backI δ is os) i o
  | _, _ => δ
def toA (δ : Sto) : Nat → List Arg → List AV
  | _, [] => []
  | n, .d x :: as => .imm x :: toA δ n as
  | n, .o i :: as => (match δ[i]? with
    | some (some (.own _ o)) => .own (some n) o
    | _ => .own (some n) (.lst [])) :: toA δ (n + 1) as
structure OkA (n : Nat) (δ : Sto) (as : List Arg) : Prop where
  len : as.length = n
  nd : (ownI as).Nodup
  own : ∀ i ∈ ownI as, ∃ p o, δ[i]? = some (some (AV.own p o))
theorem OkA.d {n : Nat} {δ : Sto} {as : List Arg} (hl : as.length = n) (h : ownI as = []) : OkA n δ as := ⟨hl, by rw [h]; exact List.nodup_nil, by rw [h]; simp⟩
theorem OkA.one {n : Nat} {δ : Sto} {as : List Arg} {i : Nat} {p : Option Nat} {o : OV} (hl : as.length = n) (h : ownI as = [i]) (e : δ[i]? = some (some (AV.own p o))) : OkA n δ as := ⟨hl, by rw [h]; simp, by rw [h]; intro j hj; rw [List.mem_singleton.mp hj]; exact ⟨p, o, e⟩⟩
theorem OkA.two {n : Nat} {δ : Sto} {as : List Arg} {i j : Nat} {p q : Option Nat} {o u : OV} (hl : as.length = n) (h : ownI as = [i, j]) (ne : i ≠ j) (e : δ[i]? = some (some (AV.own p o))) (e2 : δ[j]? = some (some (AV.own q u))) : OkA n δ as := ⟨hl, by rw [h]; simp [ne], by
  rw [h]; intro m hm
  rcases List.mem_cons.mp hm with rfl | hm
  · exact ⟨p, o, e⟩
  · rw [List.mem_singleton.mp hm]; exact ⟨q, u, e2⟩⟩
theorem setO_len (δ : Sto) (i : Nat) (o : OV) : (setO δ i o).length = δ.length := by
  unfold setO; split <;> simp
theorem backI_len (δ : Sto) : ∀ (is : List Nat) (os : List OV), (backI δ is os).length = δ.length
  | [], _ => rfl
  | i :: is, [] => rfl
  | i :: is, o :: os => by show (setO (backI δ is os) i o).length = _; rw [setO_len, backI_len δ is os]
theorem setO_get {δ : Sto} {i j : Nat} {o : OV} {av : AV} (h : (setO δ i o)[j]? = some (some av)) : (j = i ∧ ∃ p o0, δ[i]? = some (some (AV.own p o0)) ∧ av = .own p o) ∨ ((j ≠ i ∨ ∀ p o0, δ[i]? ≠ some (some (AV.own p o0))) ∧ δ[j]? = some (some av)) := by
  unfold setO at h
  split at h
  · rename_i p o0 he
    rcases set_get h with ⟨rfl, e, _⟩ | ⟨ne, h⟩
    · exact .inl ⟨rfl, p, o0, he, e.symm⟩
    · exact .inr ⟨.inl ne, h⟩
  · rename_i hn
    exact .inr ⟨.inr fun p o0 e => hn p o0 e, h⟩
theorem backI_get {δ : Sto} : ∀ {is : List Nat} {os : List OV} {j : Nat} {av : AV}, is.Nodup → is.length = os.length → (∀ i ∈ is, ∃ p o, δ[i]? = some (some (AV.own p o))) → (backI δ is os)[j]? = some (some av) →
    (∃ (m : Nat) (o : OV) (p : Option Nat) (o0 : OV), is[m]? = some j ∧ os[m]? = some o ∧ δ[j]? = some (some (AV.own p o0)) ∧ av = .own p o) ∨ (j ∉ is ∧ δ[j]? = some (some av))
  | [], [], j, av, _, _, _, h => .inr ⟨by simp, h⟩
  | i :: is, o :: os, j, av, nd, hl, ho, h => by
    have nd' := List.nodup_cons.mp nd
    have h : (setO (backI δ is os) i o)[j]? = some (some av) := h
    have hi : ∃ p o0, (backI δ is os)[i]? = some (some (AV.own p o0)) ∧ δ[i]? = some (some (AV.own p o0)) := by
      obtain ⟨p, o0, e⟩ := ho i List.mem_cons_self
      have hlt : i < (backI δ is os).length := by rw [backI_len]; exact (List.getElem?_eq_some_iff.mp e).1
      -- the slot i is not among the others
      have keep : ∀ (is : List Nat) (os : List OV), i ∉ is → (backI δ is os)[i]? = δ[i]? := by
        intro is
        induction is with
        | nil => intro os _; rfl
        | cons k is ih =>
          intro os hk
          cases os with
          | nil => rfl
          | cons u us =>
            have ne : k ≠ i := fun z => hk (by rw [z]; exact List.mem_cons_self)
            show (setO (backI δ is us) k u)[i]? = _
            unfold setO
            split
            · rw [List.getElem?_set_ne ne]; exact ih us fun z => hk (List.mem_cons_of_mem _ z)
            · exact ih us fun z => hk (List.mem_cons_of_mem _ z)
      exact ⟨p, o0, by rw [keep is os nd'.1]; exact e, e⟩
    rcases setO_get h with ⟨rfl, p, o0, e, ea⟩ | ⟨hne, h⟩
    · obtain ⟨p', o0', e1, e2⟩ := hi
      rw [e1] at e; cases e
      exact .inl ⟨0, o, p, o0, rfl, rfl, e2, ea⟩
    · have ne : j ≠ i := by
        rcases hne with z | z
        · exact z
        · obtain ⟨p, o0, e1, _⟩ := hi
          exact absurd e1 (z p o0)
      rcases backI_get (is := is) (os := os) nd'.2 (by simpa using hl) (fun i hi => ho i (List.mem_cons_of_mem _ hi)) h with ⟨m, o1, p, o0, a, b, c, d⟩ | ⟨a, b⟩
      · exact .inl ⟨m + 1, o1, p, o0, by simpa using a, by simpa using b, c, d⟩
      · exact .inr ⟨fun z => (List.mem_cons.mp z).elim ne a, b⟩
theorem backI_own {δ : Sto} : ∀ {is : List Nat} {os : List OV} {j : Nat} {p : Option Nat} {o : OV}, (backI δ is os)[j]? = some (some (AV.own p o)) → ∃ p' o', δ[j]? = some (some (AV.own p' o'))
  | [], _, j, p, o, h => ⟨p, o, h⟩
  | _ :: _, [], j, p, o, h => ⟨p, o, h⟩
  | i :: is, u :: us, j, p, o, h => by
    have h : (setO (backI δ is us) i u)[j]? = some (some (AV.own p o)) := h
    rcases setO_get h with ⟨rfl, q, o0, e, _⟩ | ⟨_, h⟩
    · exact backI_own e
    · exact backI_own h
section
variable {S : Sig} {G : Gh} {σ : L2.St} {B H : Hp} {δ : Sto}
/-- the own arguments' places -/
theorem args_own (R : Rst S G σ B H δ) : ∀ {as : List Arg} {vs : List V} {n : Nat}, Paired (ArgOk S σ B) vs as → (∀ i ∈ ownI as, ∃ p o, δ[i]? = some (some (AV.own p o))) →
    Paired (ArgA S B H) vs (toA δ n as) ∧ Numb n (toA δ n as) ∧ Paired (fun (l : Addr) (i : Nat) => σ[i]? = some (some (V.ref l))) (ownA vs (toA δ n as)) (ownI as)
  | [], [], n, .nil, _ => ⟨.nil, trivial, .nil⟩
  | .d x :: as, v :: vs, n, .cons r rs, ho => by
    obtain ⟨a, b, c⟩ := args_own R (n := n) rs ho
    refine ⟨.cons r a, b, ?_⟩
    cases v <;> exact c
  | .o i :: as, v :: vs, n, .cons r rs, ho => by
    obtain ⟨a, b, c⟩ := args_own R (n := n + 1) rs fun j hj => ho j (List.mem_cons_of_mem _ hj)
    obtain ⟨p, o, e⟩ := ho i List.mem_cons_self
    obtain ⟨l, q1, q2, q3, q4⟩ := R.sl i _ e
    have r : σ[i]? = some (some v) := r
    rw [q1] at r
    have ev : V.ref l = v := Option.some.inj (Option.some.inj r)
    subst ev
    have et : toA δ n (.o i :: as) = .own (some n) o :: toA δ (n + 1) as := by
      show (match δ[i]? with | some (some (.own _ o)) => AV.own (some n) o | _ => .own (some n) (.lst [])) :: toA δ (n + 1) as = _
      rw [e]
    rw [et]
    exact ⟨.cons ⟨l, rfl, q2, q3⟩ a, ⟨rfl, b⟩, .cons q1 c⟩
theorem own_nodup (R : Rst S G σ B H δ) : ∀ {ls : List Addr} {is : List Nat}, Paired (fun (l : Addr) (i : Nat) => σ[i]? = some (some (V.ref l))) ls is → is.Nodup → (∀ i ∈ is, ∃ p o, δ[i]? = some (some (AV.own p o))) → ls.Nodup
  | _, _, .nil, _, _ => List.nodup_nil
  | l :: ls, i :: is, .cons r rs, nd, ho => by
    have nd' := List.nodup_cons.mp nd
    refine List.nodup_cons.mpr ⟨fun hm => ?_, own_nodup R rs nd'.2 fun j hj => ho j (List.mem_cons_of_mem _ hj)⟩
    obtain ⟨m, hm⟩ := List.getElem?_of_mem hm
    have hlen := Paired.length rs
    have hlt : m < is.length := by rw [← hlen]; exact (List.getElem?_eq_some_iff.mp hm).1
    obtain ⟨l', h1, h2⟩ := paired_get rs (List.getElem?_eq_getElem hlt)
    rw [hm] at h1; cases h1
    obtain ⟨p, o, e⟩ := ho i List.mem_cons_self
    obtain ⟨p', o', e'⟩ := ho is[m] (List.mem_cons_of_mem _ (List.getElem_mem hlt))
    exact nd'.1 (by rw [R.sep i is[m] l p o p' o' e e' r h2]; exact List.getElem_mem hlt)
/-- behind a call -/
theorem Rst.after (R : Rst S G σ B H δ) {ls : List Addr} {is : List Nat} {os : List OV} {B' H' : Hp} (hp : Paired (fun (l : Addr) (i : Nat) => σ[i]? = some (some (V.ref l))) ls is) (nd : is.Nodup) (ho : ∀ i ∈ is, ∃ p o, δ[i]? = some (some (AV.own p o)))
    (e1 : Ex B B') (e2 : NoTbl B') (e3 : Ex B' H') (e4 : LamX.Tabs S.T H') (e5 : Kp ls H H') (e6 : ∀ a, ¬ Nn H a → ¬ Nn H' a) (e7 : ∀ a, B' a ≠ none → B a = none → Nn H a) (e8 : OwnBack S B' H' ls os) : Rst S G σ B' H' (backI δ is os) := by
  have hlen : is.length = os.length := (Paired.length hp).symm.trans (Paired.length e8)
  have inls : ∀ {i : Nat} {l : Addr}, i ∈ is → σ[i]? = some (some (V.ref l)) → l ∈ ls := fun {i l} hi hl => by
    obtain ⟨m, hm⟩ := List.getElem?_of_mem hi
    obtain ⟨l', h1, h2⟩ := paired_get hp hm
    rw [hl] at h2
    have : l = l' := by injection (Option.some.inj (Option.some.inj h2))
    rw [this]; exact List.mem_of_getElem? h1
  have lsin : ∀ {l : Addr}, l ∈ ls → ∃ i, i ∈ is ∧ σ[i]? = some (some (V.ref l)) := fun {l} hl => by
    obtain ⟨m, hm⟩ := List.getElem?_of_mem hl
    have hlt : m < is.length := by rw [← Paired.length hp]; exact (List.getElem?_eq_some_iff.mp hm).1
    obtain ⟨l', h1, h2⟩ := paired_get hp (List.getElem?_eq_getElem hlt)
    rw [hm] at h1; cases h1
    exact ⟨_, List.getElem_mem hlt, h2⟩
  refine ⟨R.exB.trans e1, e2, e3, e4, fun a u h1 h2 h3 => ?_, fun a h => e6 a (R.al a h), R.l0, fun a h1 h2 => ?_, by rw [backI_len]; exact R.len, fun i av h => ?_, fun i j l p o p' o' a1 a2 a3 a4 => ?_⟩
  · refine e5 a u (fun hm => ?_) h2 (R.keep a u h1 h2 h3)
    obtain ⟨i, hi, hs⟩ := lsin hm
    obtain ⟨p, o, e⟩ := ho i hi
    obtain ⟨l, q1, q2, q3, q4⟩ := R.sl i _ e
    rw [q1] at hs
    have : l = a := by injection (Option.some.inj (Option.some.inj hs))
    subst this
    cases p with
    | some j => exact h1 (List.mem_of_getElem? q4)
    | none =>
      obtain ⟨ps, ep⟩ := (show Nn G.H0 l from q4) u h3
      exact h2 ps ep
  · by_cases q : B a = none
    · exact R.none0 (e7 a h1 q)
    · exact R.fr a q h2
  · rcases backI_get nd hlen ho h with ⟨m, o, p, o0, b1, b2, b3, b4⟩ | ⟨b1, b2⟩
    · obtain ⟨l, q1, q2, q3, q4⟩ := R.sl i _ b3
      obtain ⟨l', g1, g2⟩ := paired_get hp b1
      rw [q1] at g2
      have : l = l' := by injection (Option.some.inj (Option.some.inj g2))
      subst this
      obtain ⟨l2, g3, g4, g5⟩ := paired_get e8 b2
      rw [g1] at g3; cases g3
      rw [b4]
      exact ⟨l, q1, g4, g5, q4⟩
    · have q := R.sl i _ b2
      cases av with
      | imm d => obtain ⟨v, q1, q2⟩ := q; exact ⟨v, q1, q2.mono e1⟩
      | own p o =>
        obtain ⟨l, q1, q2, q3, q4⟩ := q
        have nl : l ∉ ls := fun hm => by
          obtain ⟨j, hj, hs⟩ := lsin hm
          obtain ⟨p', o', e⟩ := ho j hj
          have := R.sep i j l p o p' o' b2 e q1 hs
          rw [this] at b1
          exact b1 hj
        obtain ⟨u, hu, hn⟩ := q2.some
        refine ⟨l, q1, q2.mono e1 (by rw [hu]; exact e5 l u nl hn hu), Classical.byContradiction fun z => q2.nn (e7 l z q3), q4⟩
  · have get : ∀ {j : Nat} {p3 : Option Nat} {o3 : OV}, (backI δ is os)[j]? = some (some (AV.own p3 o3)) → ∃ p4 o4, δ[j]? = some (some (AV.own p4 o4)) := fun {j p3 o3} hj => by
      rcases backI_get nd hlen ho hj with ⟨m, o, p, o0, b1, b2, b3, b4⟩ | ⟨b1, b2⟩
      · exact ⟨_, _, b3⟩
      · exact ⟨_, _, b2⟩
    obtain ⟨_, _, b1⟩ := get a1
    obtain ⟨_, _, b2⟩ := get a2
    exact R.sep i j l _ _ _ _ b1 b2 a3 a4
end
section
variable {S : Sig} {X : Cx} {δ : Sto} {e : Expr} {es : List Expr} {pos p : Pos} {k : Sto → DV → Prop} {kf : Sto → OV → Prop} {ps : List Str} {W : AW1} {lv : Nat} {x : Str}
theorem sp_of {G : Gh} {σ : L2.St} {B H : Hp} {vs : List V} {as : List Arg} {kk : List OV → AV → Prop} {Q : VK} (R : Rst S G σ B H δ) (hp : Paired (ArgOk S σ B) vs as) (ok : OkA ps.length δ as) (hw : W (toA δ 0 as) kk)
    (h : ∀ v B' H' os r, Ex B B' → Rst S G σ B' H' (backI δ (ownI as) os) → RetN S B' H' H v r → kk os r → Q v H') (E : XK) : spA S ps.length W (vs ++ []) H Q E := by
  obtain ⟨a, b, c⟩ := args_own R (n := 0) hp ok.own
  rw [List.append_nil]
  exact ⟨B, toA δ 0 as, kk, R.ex, R.nt, R.tab, (Paired.length hp).trans ok.len, a, b, own_nodup R c ok.nd ok.own, hw, fun v B' H' os r e1 e2 e3 e4 e5 e6 e7 e8 hr hk =>
    h v B' H' os r e1 (R.after c ok.nd ok.own e1 e2 e3 e4 e5 e6 e7 e8) hr hk⟩
/-- f(..), its answer data -/
theorem AE.call (C : Can X.prog X.w X.mg X.base S lv x ps W) (hr : Room lv X.A) (hK : X.K = S.K) (ha : AA S X (e :: es) δ fun δ1 as => OkA ps.length δ1 as ∧ W (toA δ1 0 as) fun os r => ∃ d, r = .imm d ∧ k (backI δ1 (ownI as) os) d) (hg : Gl X x := by rfl)
    (hdb : (x == ("__debug__" : Str)) = false := by decide) (he : starEach (e :: es) X.env = (false, eval e X.env) :: starEach es X.env := by rfl) (hpl : (backTo pos (starEach es X.env)).any (·.1) = false := by rfl) : AE S X (.Call (.Name x p) (e :: es) [] pos) δ k := fun G σ B H R => by
  obtain ⟨f, fd, F, hm, hk, hb⟩ := C.ex
  rw [← hK] at F hk hb
  refine WE.of (pe_call (CX := CX0) F hr hg hm hk hb .nil pass0 (pw_a _) hdb he hpl) ((ha G σ B H R).imp fun vs H1 ⟨B1, δ1, as, e1, R1, r1, ok, hw⟩ => ?_)
  exact sp_of R1 r1 ok hw (fun v B' H' os r e2 R2 hr hk => by
    obtain ⟨d, rfl, hk⟩ := hk
    exact ⟨B', _, d, e1.trans e2, R2, hr, hk⟩) E0
/-- .. a new thing -/
theorem AF.call (C : Can X.prog X.w X.mg X.base S lv x ps W) (hr : Room lv X.A) (hK : X.K = S.K) (ha : AA S X (e :: es) δ fun δ1 as => OkA ps.length δ1 as ∧ W (toA δ1 0 as) fun os r => ∃ o, r = .own none o ∧ kf (backI δ1 (ownI as) os) o) (hg : Gl X x := by rfl)
    (hdb : (x == ("__debug__" : Str)) = false := by decide) (he : starEach (e :: es) X.env = (false, eval e X.env) :: starEach es X.env := by rfl) (hpl : (backTo pos (starEach es X.env)).any (·.1) = false := by rfl) : AF S X (.Call (.Name x p) (e :: es) [] pos) δ kf := fun G σ B H R => by
  obtain ⟨f, fd, F, hm, hk, hb⟩ := C.ex
  rw [← hK] at F hk hb
  refine WE.of (pe_call (CX := CX0) F hr hg hm hk hb .nil pass0 (pw_a _) hdb he hpl) ((ha G σ B H R).imp fun vs H1 ⟨B1, δ1, as, e1, R1, r1, ok, hw⟩ => ?_)
  exact sp_of R1 r1 ok hw (fun v B' H' os r e2 R2 hr hk => by
    obtain ⟨o, rfl, hk⟩ := hk
    obtain ⟨l, q1, q2, q3, q4⟩ := hr
    refine ⟨B', _, o, e1.trans e2, R2, ⟨l, q1, q2, q3, R1.none0 q4, fun i p u hi z => ?_⟩, hk⟩
    -- the slots' things are older
    obtain ⟨p', o', hi'⟩ := backI_own hi
    obtain ⟨l', g1, g2, _⟩ := R1.sl i _ hi'
    rw [g1] at z
    have : l' = l := by injection (Option.some.inj (Option.some.inj z))
    rw [this] at g2
    exact g2.nn q4) E0
end
end AX
namespace AX
open PySem PySem.Spec PyProof.Rows L2 Evl
/-! ## operations on data -/
mutual
def DV.py : DV → PyData
  | .non => .none
  | .bl b => .bool b
  | .int i => .int i
  | .str x => .str x
  | .lst xs => .list (DV.pyL xs)
  | .tup xs => .tuple (DV.pyL xs)
  | .ob _ _ => .none
  | .raw _ => .none
  | .scr ns => .list (ns.map .int)
def DV.pyL : List DV → List PyData
  | [] => []
  | x :: xs => DV.py x :: DV.pyL xs
end
mutual
def DV.plain : DV → Bool
  | .ob _ _ => false
  | .raw _ => false
  | .lst xs => DV.plainL xs
  | .tup xs => DV.plainL xs
  | _ => true
def DV.plainL : List DV → Bool
  | [] => true
  | x :: xs => DV.plain x && DV.plainL xs
end
theorem dpAll_ints {K : PySem.W.Frag} {H : Hp} : ∀ ns : List Int, DpAll K H (ns.map V.int) (ns.map PyData.int)
  | [] => .nil
  | n :: ns => .cons (.int n) (dpAll_ints ns)
section
variable {S : Sig} {B H : Hp}
mutual
theorem Rep.dp (e : Ex B H) : ∀ {d : DV} {v : V}, Rep S B v d → d.plain = true → Dp S.K H v d.py
  | .non, _, .non, _ => .non
  | .bl b, _, .bl _, _ => .bl b
  | .int i, _, .int _, _ => .int i
  | .str x, _, .str _, _ => .str x
  | .lst ds, _, .lst h r, p => .lst (sq_of (e _ _ h)) (RepL.dp e r p)
  | .tup ds, _, .tup h r, p => .tup (ex_t e h) (RepL.dp e r p)
  | .scr ns, _, .scr h, _ => .lst (ex_l e h) (dpAll_ints ns)
  | .ob _ _, _, _, p => by simp [DV.plain] at p
  | .raw _, _, _, p => by simp [DV.plain] at p
theorem RepL.dp (e : Ex B H) : ∀ {ds : List DV} {vs : List V}, RepL S B vs ds → DV.plainL ds = true → DpAll S.K H vs (DV.pyL ds)
  | [], _, .nil, _ => .nil
  | d :: ds, _, .cons h r, p => by
    have p' : (DV.plain d && DV.plainL ds) = true := p
    rw [Bool.and_eq_true] at p'
    exact .cons (Rep.dp e h p'.1) (RepL.dp e r p'.2)
end
end
section
variable {S : Sig} {X : Cx}
theorem p2_iii {f : Int → Int → Int} {i j : Int} : P2 S (rI0 fun i j => .int (f i j)) (.int i) (.int j) (.int (f i j)) := fun B H v w Q e r1 r2 q => ⟨i, j, r1.int_inv, r2.int_inv, q _ (.int _)⟩
theorem p2_iib {f : Int → Int → Bool} {i j : Int} : P2 S (rI0 fun i j => .bl (f i j)) (.int i) (.int j) (.bl (f i j)) := fun B H v w Q e r1 r2 q => ⟨i, j, r1.int_inv, r2.int_inv, q _ (.bl _)⟩
theorem p2_ciii {C : Int → Int → Prop} {f : Int → Int → Int} {i j : Int} (h : C i j) : P2 S (rI C fun i j => .int (f i j)) (.int i) (.int j) (.int (f i j)) := fun B H v w Q e r1 r2 q => ⟨i, j, r1.int_inv, r2.int_inv, h, q _ (.int _)⟩
theorem p2_eqI {i j : Int} : P2 S rEq (.int i) (.int j) (.bl (decide (i = j))) := fun B H v w Q e r1 r2 q => by
  rw [r1.int_inv, r2.int_inv]
  refine ⟨rfl, ?_⟩
  have : decide (V.int i = V.int j) = decide (i = j) := by
    by_cases h : i = j
    · rw [h]; simp
    · rw [decide_eq_false h, decide_eq_false (fun z => h (V.int.inj z))]
  rw [this]; exact q _ (.bl _)
theorem p2_neI {i j : Int} : P2 S rNe (.int i) (.int j) (.bl (!decide (i = j))) := fun B H v w Q e r1 r2 q => by
  rw [r1.int_inv, r2.int_inv]
  refine ⟨rfl, ?_⟩
  have : decide (V.int i = V.int j) = decide (i = j) := by
    by_cases h : i = j
    · rw [h]; simp
    · rw [decide_eq_false h, decide_eq_false (fun z => h (V.int.inj z))]
  rw [this]; exact q _ (.bl _)
theorem p2_eqS {i j : Str} : P2 S rEq (.str i) (.str j) (.bl (decide (i = j))) := fun B H v w Q e r1 r2 q => by
  rw [r1.str_inv, r2.str_inv]
  refine ⟨rfl, ?_⟩
  have : decide (V.str i = V.str j) = decide (i = j) := by
    by_cases h : i = j
    · rw [h]; simp
    · rw [decide_eq_false h, decide_eq_false (fun z => h (V.str.inj z))]
  rw [this]; exact q _ (.bl _)
theorem p2_neB {i j : Bool} : P2 S rNe (.bl i) (.bl j) (.bl (!decide (i = j))) := fun B H v w Q e r1 r2 q => by
  rw [r1.bl_inv, r2.bl_inv]
  refine ⟨rfl, ?_⟩
  have : decide (V.bl i = V.bl j) = decide (i = j) := by
    by_cases h : i = j
    · rw [h]; simp
    · rw [decide_eq_false h, decide_eq_false (fun z => h (V.bl.inj z))]
  rw [this]; exact q _ (.bl _)
theorem p2_isN : P2 S (fun x y H Q => y = .non ∧ Q (.bl (decide (x = .non))) H) .non .non (.bl true) := fun B H v w Q e r1 r2 q => by
  rw [r1.non_inv, r2.non_inv]
  exact ⟨rfl, q _ (.bl true)⟩
/-- .. of what is not None -/
def DV.isSm : DV → Bool
  | .non => false
  | .raw v => decide (v ≠ .non)
  | _ => true
theorem Rep.ne_non {B : Hp} {v : V} {d : DV} (r : Rep S B v d) (h : d.isSm = true) : v ≠ .non := by
  cases r with
  | raw v => simpa [DV.isSm] using h
  | non => simp [DV.isSm] at h
  | _ => intro z; cases z
theorem p2_isF {d : DV} (h : d.isSm = true) : P2 S (fun x y H Q => y = .non ∧ Q (.bl (decide (x = .non))) H) d .non (.bl false) := fun B H v w Q e r1 r2 q => by
  rw [r2.non_inv]
  refine ⟨rfl, ?_⟩
  rw [decide_eq_false (r1.ne_non h)]
  exact q _ (.bl false)
theorem p2_isB {i j : Bool} : P2 S rIsB (.bl i) (.bl j) (.bl (decide (i = j))) := fun B H v w Q e r1 r2 q => ⟨i, j, r1.bl_inv, r2.bl_inv, q _ (.bl _)⟩
theorem atI_rep {B : Hp} {vs : List V} {ds : List DV} {i : Int} {d : DV} (r : RepL S B vs ds) (h : atI ds i = some d) : ∃ v, atI vs i = some v ∧ Rep S B v d := by
  unfold atI at h ⊢
  rw [r.length]
  cases hj : ixN ds.length i with
  | none => rw [hj] at h; cases h
  | some j =>
    rw [hj] at h
    obtain ⟨v, h1, h2⟩ := r.get (show ds[j]? = some d from h)
    exact ⟨v, h1, h2⟩
theorem p2_ixL {ds : List DV} {i : Int} {d : DV} (h : atI ds i = some d) : P2 S (rIxL S.K) (.lst ds) (.int i) d := fun B H v w Q e r1 r2 q => by
  obtain ⟨a, xs, rfl, hx, hr⟩ := r1.lst_inv
  obtain ⟨u, h1, h2⟩ := atI_rep hr h
  exact ⟨a, xs, i, u, rfl, r2.int_inv, sq_of (e _ _ hx), h1, q u h2⟩
theorem p2_ixT {ds : List DV} {i : Int} {d : DV} (h : atI ds i = some d) : P2 S (rIxT S.K) (.tup ds) (.int i) d := fun B H v w Q e r1 r2 q => by
  obtain ⟨a, xs, rfl, hx, hr⟩ := r1.tup_inv
  obtain ⟨u, h1, h2⟩ := atI_rep hr h
  exact ⟨a, xs, i, u, rfl, r2.int_inv, ex_t e hx, h1, q u h2⟩
theorem p2_ixScr {ns : List Int} {i n : Int} (h : atI ns i = some n) : P2 S (rIxL S.K) (.scr ns) (.int i) (.int n) := fun B H v w Q e r1 r2 q => by
  cases r1 with
  | @scr a ns hx =>
    refine ⟨a, _, i, .int n, rfl, r2.int_inv, ex_l e hx, ?_, q _ (.int n)⟩
    unfold atI at h ⊢
    rw [List.length_map]
    cases hj : ixN ns.length i with
    | none => rw [hj] at h; cases h
    | some j =>
      rw [hj] at h
      show (ns.map V.int)[j]? = _
      rw [List.getElem?_map, show ns[j]? = some n from h] <;> rfl
theorem p2_eqD {x y : DV} (hx : x.plain = true) (hy : y.plain = true) (h1 : SeqAt.shaped x.py = true) (h2 : SeqAt.shaped y.py = true) : P2 S (rEqD S.K) x y (.bl (PyData.eqv x.py y.py)) := fun B H v w Q e r1 r2 q => ⟨_, _, r1.dp e hx, r2.dp e hy, h1, h2, q _ (.bl _)⟩
theorem p2_neD {x y : DV} (hx : x.plain = true) (hy : y.plain = true) (h1 : SeqAt.shaped x.py = true) (h2 : SeqAt.shaped y.py = true) : P2 S (rNeD S.K) x y (.bl (!PyData.eqv x.py y.py)) := fun B H v w Q e r1 r2 q => ⟨_, _, r1.dp e hx, r2.dp e hy, h1, h2, q _ (.bl _)⟩
theorem p1_neg {i : Int} : P1 S (rU fun i => .int (-i)) (.int i) (.int (-i)) := fun B H v Q e r q => ⟨i, r.int_inv, q _ (.int _)⟩
/-- lists joined -/
theorem p2f_cat {xs ys : List DV} (hz : xs.length + ys.length ≤ 100000) : P2F S rCat (.lst xs) (.lst ys) (.lst (xs ++ ys)) := fun G σ B H δ v w Q R r1 r2 q => by
  obtain ⟨a, us, rfl, h1, hr1⟩ := r1.lst_inv
  obtain ⟨b, ws, rfl, h2, hr2⟩ := r2.lst_inv
  refine ⟨a, b, us, ws, rfl, rfl, R.ex _ _ h1, R.ex _ _ h2, sz_of (by rw [hr1.length, hr2.length]; exact hz), fun p hp => q _ _ (R.fresh hp) (New.lst R hp (hr1.append hr2))⟩
theorem rep_rep {B : Hp} {vs : List V} {ds : List DV} (r : RepL S B vs ds) : ∀ n : Nat, RepL S B (List.replicate n vs).flatten (List.replicate n ds).flatten
  | 0 => .nil
  | n + 1 => by
    rw [List.replicate_succ, List.replicate_succ, List.flatten_cons, List.flatten_cons]
    exact r.append (rep_rep r n)
theorem p2n_catT {xs ys : List DV} (hz : xs.length + ys.length ≤ 100000) : P2N S (rCatA S.K) (.tup xs) (.tup ys) (.tup (xs ++ ys)) := fun G σ B H δ v w Q R r1 r2 q => by
  obtain ⟨a, us, rfl, h1, hr1⟩ := r1.tup_inv
  obtain ⟨b, ws, rfl, h2, hr2⟩ := r2.tup_inv
  refine ⟨a, b, us, ws, rfl, rfl, ex_t R.ex h1, ex_t R.ex h2, sz_of (by rw [hr1.length, hr2.length]; exact hz), fun e => ?_, fun e1 e2 => ?_, fun _ _ p hp => ?_⟩
  · subst e
    cases hr1
    exact q _ B H (Ex.refl B) R (.tup h2 hr2)
  · subst e2
    cases hr2
    rw [List.append_nil] at q
    exact q _ B H (Ex.refl B) R (.tup h1 hr1)
  · exact q _ _ _ (Ex.new (fresh_back R.ex hp)) (R.laid hp (fun _ z => by cases z)) (.tup (st_of upd_same) ((hr1.append hr2).mono (Ex.new (fresh_back R.ex hp))))
/-! ### built-ins -/
theorem pc_abs {i : Int} : PC1 S (fun xs H Q => ∃ i, xs = [.int i] ∧ Q (.int (if i < 0 then -i else i)) H) [.int i] (.int (if i < 0 then -i else i)) := fun B H vs Q e r q => by
  cases r with
  | cons h t => cases t; exact ⟨i, by rw [h.int_inv], q _ (.int _)⟩
theorem pc_int {i : Int} : PC1 S (fun xs H Q => (∃ i, xs = [.int i] ∧ Q (.int i) H) ∨ ∃ k, xs = [.bl k] ∧ Q (.int (if k then 1 else 0)) H) [.int i] (.int i) := fun B H vs Q e r q => by
  cases r with
  | cons h t => cases t; exact .inl ⟨i, by rw [h.int_inv], q _ (.int _)⟩
theorem pc_intB {b : Bool} : PC1 S (fun xs H Q => (∃ i, xs = [.int i] ∧ Q (.int i) H) ∨ ∃ k, xs = [.bl k] ∧ Q (.int (if k then 1 else 0)) H) [.bl b] (.int (if b then 1 else 0)) := fun B H vs Q e r q => by
  cases r with
  | cons h t => cases t; exact .inr ⟨b, by rw [h.bl_inv], q _ (.int _)⟩
theorem pc_max2 {i j : Int} : PC1 S (fun xs H Q => ∃ i j, xs = [.int i, .int j] ∧ Q (.int (if j > i then j else i)) H) [.int i, .int j] (.int (if j > i then j else i)) := fun B H vs Q e r q => by
  cases r with
  | cons h t =>
    cases t with
    | cons h2 t => cases t; exact ⟨i, j, by rw [h.int_inv, h2.int_inv], q _ (.int _)⟩
def DV.seq? : DV → Option (List DV)
  | .lst xs => some xs
  | .tup xs => some xs
  | .scr ns => some (ns.map .int)
  | _ => none
theorem Rep.seq {B H : Hp} {v : V} {d : DV} {ds : List DV} (e : Ex B H) (r : Rep S B v d) (h : d.seq? = some ds) : ∃ a us, v = .ref a ∧ (SqL S.K H a us ∨ SqT S.K H a us) ∧ RepL S B us ds := by
  cases r with
  | lst hx hr => cases h; exact ⟨_, _, rfl, .inl (sq_of (e _ _ hx)), hr⟩
  | tup hx hr => cases h; exact ⟨_, _, rfl, .inr (ex_t e hx), hr⟩
  | scr hx => cases h; exact ⟨_, _, rfl, .inl (ex_l e hx), RepL.ints _⟩
  | _ => cases h
theorem pc_len {d : DV} {ds : List DV} (hd : d.seq? = some ds) : PC1 S (fun xs H Q => ∃ p ys, xs = [.ref p] ∧ (SqL S.K H p ys ∨ SqT S.K H p ys) ∧ Q (.int ys.length) H) [d] (.int ds.length) := fun B H vs Q e r q => by
  cases r with
  | cons h t =>
    cases t
    obtain ⟨a, us, rfl, hx, hr⟩ := h.seq e hd
    refine ⟨a, us, rfl, hx, ?_⟩
    rw [hr.length]; exact q _ (.int _)
theorem pcf_list {d : DV} {ds : List DV} (hd : d.seq? = some ds) : PCF S (fun xs H Q => ∃ p ys, xs = [.ref p] ∧ (SqL S.K H p ys ∨ SqT S.K H p ys) ∧ ∀ l, H l = none → Q (.ref l) (upd H l (.lst ys))) [d] (.lst ds) := fun G σ B H δ vs Q R r q => by
  cases r with
  | cons h t =>
    cases t
    obtain ⟨a, us, rfl, hx, hr⟩ := h.seq R.ex hd
    exact ⟨a, us, rfl, hx, fun l hl => q _ _ (R.fresh hl) (New.lst R hl hr)⟩
theorem pcn_tuple {ds : List DV} {d : DV} (hd : d = .lst ds ∨ d = .tup ds) : PCN S (fun xs H Q => ∃ p ys, xs = [.ref p] ∧ ((SqL S.K H p ys ∧ ∀ l, H l = none → Q (.ref l) (upd H l (.tup ys))) ∨ (SqT S.K H p ys ∧ Q (.ref p) H))) [d] (.tup ds) := fun G σ B H δ vs Q R r q => by
  cases r with
  | cons h t =>
    cases t
    rcases hd with rfl | rfl
    · obtain ⟨a, us, rfl, hx, hr⟩ := h.lst_inv
      exact ⟨a, us, rfl, .inl ⟨sq_of (R.ex _ _ hx), fun l hl => q _ _ _ (Ex.new (fresh_back R.ex hl)) (R.laid hl (fun _ z => by cases z)) (.tup (st_of upd_same) (hr.mono (Ex.new (fresh_back R.ex hl))))⟩⟩
    · obtain ⟨a, us, rfl, hx, hr⟩ := h.tup_inv
      exact ⟨a, us, rfl, .inr ⟨ex_t R.ex hx, q _ B H (Ex.refl B) R (.tup hx hr)⟩⟩
theorem ints_of : ∀ {ds : List DV} {ns : List Int}, ds = ns.map DV.int → ∀ {B : Hp} {vs : List V}, RepL S B vs ds → vs = ns.map V.int
  | _, ns, rfl, _, _, r => r.ints_inv
theorem pc_sum {ns : List Int} {d : DV} (hd : d = .lst (ns.map DV.int)) : PC1 S (rSum S.K) [d] (.int ns.sum) := fun B H vs Q e r q => by
  subst hd
  cases r with
  | cons h t =>
    cases t
    obtain ⟨a, us, rfl, hx, hr⟩ := h.lst_inv
    exact ⟨a, ns, rfl, by rw [← hr.ints_inv]; exact sq_of (e _ _ hx), q _ (.int _)⟩
theorem pc_all {bs : List Bool} {d : DV} (hd : d = .lst (bs.map DV.bl)) : PC1 S (rAll S.K) [d] (.bl (bs.all id)) := fun B H vs Q e r q => by
  subst hd
  cases r with
  | cons h t =>
    cases t
    obtain ⟨a, us, rfl, hx, hr⟩ := h.lst_inv
    have eu : us = bs.map V.bl := by
      clear q hx h e
      induction bs generalizing us with
      | nil => cases hr; rfl
      | cons b bs ih => cases hr with | cons h1 h2 => rw [h1.bl_inv, ih _ h2]; rfl
    exact ⟨a, bs, rfl, by rw [← eu]; exact sq_of (e _ _ hx), q _ (.bl _)⟩
/-! ### isinstance -/
def DV.tyN : DV → Option String
  | .non => some "NoneType"
  | .bl _ => some "bool"
  | .int _ => some "int"
  | .str _ => some "str"
  | .lst _ => some "list"
  | .tup _ => some "tuple"
  | _ => none
theorem Rep.ty {B H : Hp} {v : V} {d : DV} {T : String} (e : Ex B H) (r : Rep S B v d) (h : d.tyN = some T) : TyX S.K H v (.type T) := by
  cases r with
  | non => cases h; exact .base .non
  | bl b => cases h; exact .base (.bl b)
  | int i => cases h; exact .base (.int i)
  | str x => cases h; exact .base (.str x)
  | lst hx hr => cases h; exact .base (.lst (e _ _ hx))
  | tup hx hr =>
    cases h
    rcases ex_t e hx with (z | ⟨o, z⟩) | ⟨o, its, n, z, c, _⟩
    · exact .base (.tup z)
    · exact .fTuple z
    · exact .kTuple z c
  | _ => cases h
theorem pc_isi {d : DV} {T U : String} {b : Bool} (hd : d.tyN = some T) (hb : PySem.W.kitOne S.K (.type T) (.type U) = some b) : PC1 S (rIsi S.K) [d, .raw (.ty U)] (.bl b) := fun B H vs Q e r q => by
  cases r with
  | cons h t =>
    cases t with
    | cons h2 t =>
      cases t
      exact ⟨_, _, _, _, b, rfl, (by rw [h2.raw_inv]; exact .ty U), h.ty e hd, hb, q _ (.bl b)⟩
end
end AX
namespace AX
open PySem PySem.Spec PyProof.Rows L2 Evl
/-! ## own lists and dicts -/
def dget (kvs : List (Key × DV)) (k : Key) : Option DV := (kvs.find? fun kv => decide (kv.1 = k)).map (·.2)
def dput (kvs : List (Key × DV)) (k : Key) (d : DV) : List (Key × DV) := if (kvs.any fun kv => decide (kv.1 = k)) = true then kvs.map (fun kv => if kv.1 = k then (kv.1, d) else kv) else kvs ++ [(k, d)]
def kD : Key → DV
  | .inl i => .int i
  | .inr x => .str x
theorem Rep.key {S : Sig} {B : Hp} {v : V} {k : Key} (r : Rep S B v (kD k)) : v = kV k := by
  cases k with
  | inl i => exact r.int_inv
  | inr x => exact r.str_inv
theorem Rep.keyD {S : Sig} {B : Hp} (k : Key) : Rep S B (kV k) (kD k) := by
  cases k with
  | inl i => exact .int i
  | inr x => exact .str x
section
variable {S : Sig} {B : Hp}
theorem KRep.get : ∀ {kv : List (Key × V)} {kvs : List (Key × DV)} {k : Key} {d : DV}, KRep S B kv kvs → dget kvs k = some d → ∃ v, valV kv k = some v ∧ Rep S B v d
  | _, _, k, d, .nil, h => by cases h
  | p :: kv, q :: kvs, k, d, .cons h r, e => by
    obtain ⟨h1, h2⟩ := h
    unfold dget at e
    unfold valV
    rw [List.find?_cons] at e ⊢
    rw [h1]
    by_cases hq : q.1 = k
    · rw [decide_eq_true hq] at e ⊢
      cases e
      exact ⟨p.2, rfl, h2⟩
    · rw [decide_eq_false hq] at e ⊢
      exact KRep.get r e
theorem KRep.any : ∀ {kv : List (Key × V)} {kvs : List (Key × DV)} {k : Key}, KRep S B kv kvs → (kv.any fun p => decide (p.1 = k)) = (kvs.any fun p => decide (p.1 = k))
  | _, _, k, .nil => rfl
  | p :: kv, q :: kvs, k, .cons h r => by rw [List.any_cons, List.any_cons, h.1, KRep.any r]
theorem KRep.put {kv : List (Key × V)} {kvs : List (Key × DV)} {k : Key} {v : V} {d : DV} (r : KRep S B kv kvs) (h : Rep S B v d) : KRep S B (putK kv k v) (dput kvs k d) := by
  unfold putK dput
  rw [KRep.any r]
  split
  · have : ∀ {kv : List (Key × V)} {kvs : List (Key × DV)}, KRep S B kv kvs → KRep S B (kv.map fun p => if p.1 = k then (p.1, v) else p) (kvs.map fun p => if p.1 = k then (p.1, d) else p) := by
      intro kv kvs r
      induction r with
      | nil => exact .nil
      | @cons p q kv kvs h' r ih =>
        rw [List.map_cons, List.map_cons]
        refine .cons ?_ ih
        obtain ⟨h1, h2⟩ := h'
        by_cases hq : q.1 = k
        · rw [if_pos (h1.trans hq), if_pos hq]; exact ⟨h1, h⟩
        · rw [if_neg (fun z => hq (h1.symm.trans z)), if_neg hq]; exact ⟨h1, h2⟩
    exact this r
  · have app : ∀ {kv : List (Key × V)} {kvs : List (Key × DV)}, KRep S B kv kvs → KRep S B (kv ++ [(k, v)]) (kvs ++ [(k, d)]) := by
      intro kv kvs r
      induction r with
      | nil => exact .cons ⟨rfl, h⟩ .nil
      | cons h' r ih => exact .cons h' ih
    exact app r
theorem KRep.keys : ∀ {kv : List (Key × V)} {kvs : List (Key × DV)}, KRep S B kv kvs → RepL S B (kv.map fun p => kV p.1) (kvs.map fun p => kD p.1)
  | _, _, .nil => .nil
  | p :: kv, q :: kvs, .cons h r => by
    rw [List.map_cons, List.map_cons]
    exact .cons (by rw [h.1]; exact .keyD _) (KRep.keys r)
end
section
variable {S : Sig} {X : Cx} {δ : Sto} {b e : Expr} {es : List Expr} {pos xp apos cpos : Pos} {x : Str} {k : Sto → DV → Prop} {kf : Sto → OV → Prop} {D : AEnds}
/-- what reading the name of an own thing asks of the frame -/
structure NameOk (X : Cx) (i : Nat) (x : Str) : Prop where
  hN : X.N[i]? = some x
  hs : Vis X.env.scope x
  hd : (x == ("__debug__" : Str)) = false
  hcd : (x == ("__classdict__" : Str)) = false
theorem NameOk.of {i : Nat} (hN : X.N[i]? = some x := by rfl) (hs : Vis X.env.scope x := by first | exact Or.inl rfl | exact Or.inr (Or.inl rfl) | exact Or.inr (Or.inr rfl)) (hd : (x == ("__debug__" : Str)) = false := by decide) (hcd : (x == ("__classdict__" : Str)) = false := by decide) : NameOk X i x := ⟨hN, hs, hd, hcd⟩
theorem NameOk.pe {i : Nat} (n : NameOk X i x) : PE X (.Name x pos) (tVar i) := pe_var n.hN n.hs n.hd n.hcd
/-- x[e], x an own list -/
theorem AE.ixO (i : Nat) {p : Option Nat} {ds : List DV} (hv : δ[i]? = some (some (.own p (.lst ds)))) (hb : AE S X b δ fun δ1 y => ∃ (q : Option Nat) (ds' : List DV) (n : Int) (d : DV), δ1[i]? = some (some (.own q (.lst ds'))) ∧ y = .int n ∧ atI ds' n = some d ∧ k δ1 d) (n : NameOk X i x := by exact NameOk.of) (hs : PlainIx b := by exact fun _ _ => rfl) : AE S X (.Subscript (.Name x xp) b pos) δ k := fun G σ B H R => by
  obtain ⟨l, e1, _⟩ := R.sl i _ hv
  refine WE.of (pe_ix ix_list n.pe (pw_e b) hs) ⟨.ref l, e1, (hb G σ B H R).imp fun w H1 ⟨B1, δ1, y, e2, R1, r1, q, ds', n', d, h1, hy, hd, hk⟩ => ?_⟩
  subst hy
  obtain ⟨l', g1, ⟨vs, g2, g3⟩, _⟩ := R1.sl i _ h1
  rw [e1] at g1
  have : l = l' := by injection (Option.some.inj (Option.some.inj g1))
  subst this
  obtain ⟨v, h2, h3⟩ := atI_rep g3 hd
  exact ⟨l, vs, n', v, rfl, r1.int_inv, sq_of g2, h2, B1, δ1, d, e2, R1, h3, hk⟩
/-- len(x), x an own list -/
theorem AE.lenO (i : Nat) {p : Option Nat} {ds : List DV} {lp : Pos} (hm : X.mg "len" = none) (hv : δ[i]? = some (some (.own p (.lst ds)))) (hk : k δ (.int ds.length)) (n : NameOk X i x := by exact NameOk.of) (hg : Gl X "len" := by rfl)
    (he : starEach (.Name x xp :: []) X.env = (false, eval (.Name x xp) X.env) :: starEach [] X.env := by rfl) (hpl : (backTo pos (starEach [] X.env)).any (·.1) = false := by rfl) : AE S X (.Call (.Name "len" lp) [.Name x xp] [] pos) δ k := fun G σ B H R => by
  obtain ⟨l, e1, ⟨vs, g2, g3⟩, _⟩ := R.sl i _ hv
  refine WE.of (pe_callB call_len_seq hg hm PySem.boot_len (pa_cons n.pe pa_nil he) (by decide) (by decide) he hpl) ⟨.ref l, e1, l, vs, rfl, .inl (sq_of g2), B, δ, _, Ex.refl B, R, ?_, hk⟩
  rw [g3.length]; exact .int _
/-- list(x), x an own list -/
theorem AF.listO (i : Nat) {p : Option Nat} {ds : List DV} {lp : Pos} (hm : X.mg "list" = none) (hv : δ[i]? = some (some (.own p (.lst ds)))) (hk : kf δ (.lst ds)) (n : NameOk X i x := by exact NameOk.of) (hg : Gl X "list" := by rfl)
    (he : starEach (.Name x xp :: []) X.env = (false, eval (.Name x xp) X.env) :: starEach [] X.env := by rfl) (hpl : (backTo pos (starEach [] X.env)).any (·.1) = false := by rfl) : AF S X (.Call (.Name "list" lp) [.Name x xp] [] pos) δ kf := fun G σ B H R => by
  obtain ⟨l, e1, ⟨vs, g2, g3⟩, _⟩ := R.sl i _ hv
  refine WE.of (pe_callTy call_list_of hg hm (by decide +kernel) (pa_cons n.pe pa_nil he) (by decide) (by decide) he hpl) ⟨.ref l, e1, l, vs, rfl, .inl (sq_of g2), fun q hq => ⟨B, δ, _, Ex.refl B, R.fresh hq, New.lst R hq g3, hk⟩⟩
/-- list(d), d an own dict: its keys -/
theorem AF.keysO (i : Nat) {p : Option Nat} {kvs : List (Key × DV)} {lp : Pos} (hc : X.calm = true) (hm : X.mg "list" = none) (hv : δ[i]? = some (some (.own p (.dct kvs)))) (hk : kf δ (.lst (kvs.map fun q => kD q.1))) (n : NameOk X i x := by exact NameOk.of) (hg : Gl X "list" := by rfl)
    (he : starEach (.Name x xp :: []) X.env = (false, eval (.Name x xp) X.env) :: starEach [] X.env := by rfl) (hpl : (backTo pos (starEach [] X.env)).any (·.1) = false := by rfl) : AF S X (.Call (.Name "list" lp) [.Name x xp] [] pos) δ kf := fun G σ B H R => by
  obtain ⟨l, e1, ⟨kv, g2, g3⟩, _⟩ := R.sl i _ hv
  refine WE.of (pe_callTy (call_list_dK hc) hg hm (by decide +kernel) (pa_cons n.pe pa_nil he) (by decide) (by decide) he hpl) ⟨.ref l, e1, l, kv, rfl, g2, fun q hq => ⟨B, δ, _, Ex.refl B, R.fresh hq, New.lst R hq g3.keys, hk⟩⟩
/-- d[e], d an own dict -/
theorem AE.dgetO (i : Nat) {p : Option Nat} {kvs : List (Key × DV)} (hu : X.A.units + 1 < cLine) (hv : δ[i]? = some (some (.own p (.dct kvs)))) (hb : AE S X b δ fun δ1 y => ∃ (q : Option Nat) (kvs' : List (Key × DV)) (kk : Key) (d : DV), δ1[i]? = some (some (.own q (.dct kvs'))) ∧ y = kD kk ∧ dget kvs' kk = some d ∧ k δ1 d) (n : NameOk X i x := by exact NameOk.of) (hs : NoSl b := by exact fun _ _ => rfl) : AE S X (.Subscript (.Name x xp) b pos) δ k := fun G σ B H R => by
  obtain ⟨l, e1, _⟩ := R.sl i _ hv
  refine WE.of (pe_dget hu n.pe (pw_e b) hs) ⟨.ref l, e1, (hb G σ B H R).imp fun w H1 ⟨B1, δ1, y, e2, R1, r1, q, kvs', kk, d, h1, hy, hd, hk⟩ => ?_⟩
  subst hy
  obtain ⟨l', g1, ⟨kv, g2, g3⟩, _⟩ := R1.sl i _ h1
  rw [e1] at g1
  have : l = l' := by injection (Option.some.inj (Option.some.inj g1))
  subst this
  obtain ⟨v, h2, h3⟩ := g3.get hd
  refine ⟨l, v, rfl, ?_, B1, δ1, d, e2, R1, h3, hk⟩
  rw [r1.key, ← h2]
  exact DGet.k g2
/-- a method of an own list with one argument -/
def MOp (S : Sig) (r : V → List V → Hp → VK → Prop) (ds : List DV) (d : DV) (ds' : List DV) (z : DV) : Prop := ∀ (B H : Hp) (l : Addr) (vs : List V) (v : V) (Q : VK), H l = some (.lst vs) → Ex B H → RepL S B vs ds → Rep S B v d → (∀ vs' u, RepL S B vs' ds' → Rep S B u z → Q u (upd H l (.lst vs'))) → r (.ref l) [v] H Q
theorem mo_append {ds : List DV} {d : DV} (hz : ds.length < 100000) : MOp S rAppend ds d (ds ++ [d]) .non := fun B H l vs v Q h e r1 r2 q => ⟨l, vs, v, rfl, rfl, h, sz_lt (by rw [r1.length]; exact hz), q _ _ (r1.append (.cons r2 .nil)) .non⟩
theorem mo_popAt {ds : List DV} {n : Int} {j : Nat} {d : DV} (h1 : -(2 ^ 63) ≤ n) (h2 : n < 2 ^ 63) (hj : seqIndex? n ds.length = some j) (hd : ds[j]? = some d) : MOp S rPopAt ds (.int n) (ds.eraseIdx j) d := fun B H l vs v Q h e r1 r2 q => by
  obtain ⟨u, hu1, hu2⟩ := r1.get hd
  exact ⟨l, vs, n, j, u, rfl, by rw [r2.int_inv], h, h1, h2, by rw [r1.length]; exact hj, hu1, q _ _ (r1.eraseIdx j) hu2⟩
theorem mo_extend {ds es : List DV} (hz : ds.length + es.length ≤ 100000) : MOp S rExtend ds (.lst es) (ds ++ es) .non := fun B H l vs v Q h e r1 r2 q => by
  obtain ⟨a, us, rfl, hx, hr⟩ := r2.lst_inv
  exact ⟨l, a, vs, us, rfl, rfl, h, e _ _ hx, sz_of (by rw [r1.length, hr.length]; exact hz), q _ _ (r1.append hr) .non⟩
theorem AE.meth1 (i : Nat) {name : Str} {id : String} {r : V → List V → Hp → VK → Prop} (slot : Slot "list" name id) (hty : typeOf (.builtin id) = pure (.type "method_descriptor")) (hm : MtR X id r) {p0 : Option Nat} {o0 : List DV} (hv : δ[i]? = some (some (.own p0 (.lst o0))))
    (he : AE S X e δ fun δ1 d => ∃ (p : Option Nat) (ds ds' : List DV) (z : DV), δ1[i]? = some (some (.own p (.lst ds))) ∧ MOp S r ds d ds' z ∧ k (δ1.set i (some (.own p (.lst ds')))) z) (n : NameOk X i x := by exact NameOk.of)
    (hbase : attributeBase (.Name x xp) name X.env (eval (.Name x xp) X.env) = eval (.Name x xp) X.env := by rfl)
    (hfew : ((backTo cpos (starEach (e :: []) X.env)).all (fun x => !x.1) && (backToKw cpos (keywordEach [] X.env)).all (fun x => x.1.isSome) && decide ((e :: []).length + ([] : List Keyword).length + (if ([] : List Keyword).isEmpty then 0 else 1) < 30)) = true := by rfl)
    (hline : (apos.endLine == cpos.line) = true := by rfl) (hst : starEach (e :: []) X.env = (false, eval e X.env) :: starEach [] X.env := by rfl) (hplain : (backTo cpos (starEach [] X.env)).any (·.1) = false := by rfl) : AE S X (.Call (.Attribute (.Name x xp) name apos) [e] [] cpos) δ k := fun G σ B H R => by
  obtain ⟨l, e1, ⟨vs0, f1, _⟩, _⟩ := R.sl i _ hv
  refine WE.of (pe_bm PySem.F.plainAttrs_list slot hty hm n.pe (pa_cons (pw_e e) pa_nil hst) hbase hfew hline hst hplain) ⟨.ref l, e1, .inl ⟨rfl, vs0, sq_of f1⟩, (he G σ B H R).imp fun v H1 ⟨B1, δ1, d, e2, R1, r1, p, ds, ds', z, h1, hop, hk⟩ => ?_⟩
  obtain ⟨l', g1, ⟨vs, g2, g3⟩, _⟩ := R1.sl i _ h1
  rw [e1] at g1
  have : l = l' := by injection (Option.some.inj (Option.some.inj g1))
  subst this
  exact hop B1 H1 l vs v _ g2 R1.ex g3 r1 fun vs' u hr' hu => ⟨B1, _, z, e2, R1.write (o' := .lst ds') h1 e1 (fun ps z => by cases z) ⟨vs', upd_same, hr'⟩, hu, hk⟩
/-- x.append(e) -/
theorem AE.append (i : Nat) {p0 : Option Nat} {o0 : List DV} (hv : δ[i]? = some (some (.own p0 (.lst o0)))) (he : AE S X e δ fun δ1 d => ∃ (p : Option Nat) (ds : List DV), δ1[i]? = some (some (.own p (.lst ds))) ∧ ds.length < 100000 ∧ k (δ1.set i (some (.own p (.lst (ds ++ [d]))))) .non) (n : NameOk X i x := by exact NameOk.of)
    (hbase : attributeBase (.Name x xp) "append" X.env (eval (.Name x xp) X.env) = eval (.Name x xp) X.env := by rfl)
    (hfew : ((backTo cpos (starEach (e :: []) X.env)).all (fun x => !x.1) && (backToKw cpos (keywordEach [] X.env)).all (fun x => x.1.isSome) && decide ((e :: []).length + ([] : List Keyword).length + (if ([] : List Keyword).isEmpty then 0 else 1) < 30)) = true := by rfl)
    (hline : (apos.endLine == cpos.line) = true := by rfl) (hst : starEach (e :: []) X.env = (false, eval e X.env) :: starEach [] X.env := by rfl) (hplain : (backTo cpos (starEach [] X.env)).any (·.1) = false := by rfl) : AE S X (.Call (.Attribute (.Name x xp) "append" apos) [e] [] cpos) δ k :=
  AE.meth1 i PySem.F.slot_list_append PySem.F.type_list_append mt_append hv (he.imp fun δ1 d ⟨p, ds, h1, h2, h3⟩ => ⟨p, ds, _, .non, h1, mo_append h2, h3⟩) n hbase hfew hline hst hplain
/-- x[e] = v, x an own list -/
theorem DoS.putL (i : Nat) {v : Expr} {tpos : Pos} {p0 : Option Nat} {o0 : OV} (hv : δ[i]? = some (some (.own p0 o0))) (h : AE S X v δ fun δ1 d => AE S X b δ1 fun δ2 y => ∃ (p : Option Nat) (ds : List DV) (n : Int) (j : Nat), δ2[i]? = some (some (.own p (.lst ds))) ∧ y = .int n ∧ ixN ds.length n = some j ∧ D.nx (δ2.set i (some (.own p (.lst (ds.set j d)))))) (n : NameOk X i x := by exact NameOk.of)
    (hs : swapsWithSole [.Subscript (.Name x xp) b tpos] v pos.line X.env = pure false := by rfl) (hw : swappedStores [.Subscript (.Name x xp) b tpos] v X.env = pure none := by rfl) (h1 : (assignEach [.Subscript (.Name x xp) b tpos] X.env).map (·.2) = [assign (.Subscript (.Name x xp) b tpos) X.env] := by rfl)
    (h9 : ∀ v, assign (.Subscript (.Name x xp) b tpos) X.env v = (do let ov ← holding [v] (eval (.Name x xp) X.env); let iv ← holding [v, ov] (eval b X.env); standAt tpos; holding [v, ov, iv] (setItem ov iv v); release [v, ov, iv] []) := by intro _; rfl) : DoS S X (.Assign [.Subscript (.Name x xp) b tpos] v pos) δ D := fun G σ B H R => by
  obtain ⟨l, e1, _⟩ := R.sl i _ hv
  refine WS.of (ps_asg (pw_e v) (pg_sub n.pe (pw_e b) set_list (ha := h9)) hs hw h1) ((h G σ B H R).imp fun u H1 ⟨B1, δ1, d, e2, R1, r1, h1⟩ => ⟨.ref l, e1, (h1 G σ B1 H1 R1).imp fun w H2 ⟨B2, δ2, y, e3, R2, r2, p, ds, n', j, h2, hy, hj, hk⟩ => ?_⟩)
  subst hy
  obtain ⟨l', g1, ⟨vs, g2, g3⟩, _⟩ := R2.sl i _ h2
  rw [e1] at g1
  have : l = l' := by injection (Option.some.inj (Option.some.inj g1))
  subst this
  exact ⟨l, vs, n', j, rfl, r2.int_inv, g2, by rw [g3.length]; exact hj, B2, _, R2.write (o' := .lst (ds.set j d)) h2 e1 (fun ps z => by cases z) ⟨_, upd_same, g3.set (r1.mono e3) j⟩, hk⟩
/-- d[e] = v, d an own dict -/
theorem DoS.putD (i : Nat) {v : Expr} {tpos : Pos} {p0 : Option Nat} {o0 : OV} (hu : X.A.units + 1 < cLine) (hv : δ[i]? = some (some (.own p0 o0))) (h : AE S X v δ fun δ1 d => AE S X b δ1 fun δ2 y => ∃ (p : Option Nat) (kvs : List (Key × DV)) (kk : Key), δ2[i]? = some (some (.own p (.dct kvs))) ∧ y = kD kk ∧ kvs.length < 100000 ∧ D.nx (δ2.set i (some (.own p (.dct (dput kvs kk d)))))) (n : NameOk X i x := by exact NameOk.of)
    (hs : swapsWith v (some (.Subscript (.Name x xp) b tpos)) pos.line X.env = pure false := by rfl) : DoS S X (.Assign [.Subscript (.Name x xp) b tpos] v pos) δ D := fun G σ B H R => by
  obtain ⟨l, e1, _⟩ := R.sl i _ hv
  refine WS.of (ps_dput hu n.pe (pw_e b) (pw_e v) hs) ((h G σ B H R).imp fun u H1 ⟨B1, δ1, d, e2, R1, r1, h1⟩ => ⟨.ref l, e1, (h1 G σ B1 H1 R1).imp fun w H2 ⟨B2, δ2, y, e3, R2, r2, p, kvs, kk, h2, hy, hj, hk⟩ => ?_⟩)
  subst hy
  obtain ⟨l', g1, ⟨kv, g2, g3⟩, _⟩ := R2.sl i _ h2
  rw [e1] at g1
  have : l = l' := by injection (Option.some.inj (Option.some.inj g1))
  subst this
  have hl : kv.length = kvs.length := Paired.length g3
  refine ⟨l, _, rfl, by rw [r2.key]; exact DPut.k g2 (sz_lt (by rw [hl]; exact hj)), B2, _, R2.write (o' := .dct (dput kvs kk d)) h2 e1 (fun ps z => by cases z) ⟨_, upd_same, g3.put (r1.mono e3)⟩, hk⟩
/-- {} -/
theorem AF.dict (hk : kf δ (.dct [])) : AF S X (.Dict [] [] pos) δ kf := fun G σ B H R => WE.of pe_dnewK fun p hp => ⟨B, δ, _, Ex.refl B, R.fresh hp, New.dct R hp, hk⟩
/-- x, an own list of the def's own making, taken as data from now on -/
theorem AE.frz (i : Nat) {ds : List DV} (hv : δ[i]? = some (some (.own none (.lst ds)))) (hk : k (δ.set i (some (.imm (.lst ds)))) (.lst ds)) (n : NameOk X i x := by exact NameOk.of) : AE S X (.Name x xp) δ k := fun G σ B H R => by
  obtain ⟨l, e1, ⟨vs, g2, g3⟩, g4, g5⟩ := R.sl i _ hv
  have hil : i < δ.length := (List.getElem?_eq_some_iff.mp hv).1
  -- the state without the slot
  have R0 : Rst S G (σ.set i none) B H (δ.set i none) := by
    have := (R.wipe [i])
    exact this
  have nw : New S G (σ.set i none) B H (δ.set i none) (.ref l) (.lst ds) := ⟨l, rfl, ⟨vs, g2, g3⟩, g4, g5, fun j p u hj z => by
    by_cases e : i = j
    · subst e
      rw [List.getElem?_set_self hil] at hj; cases hj
    · rw [List.getElem?_set_ne e] at hj z
      exact e (R.sep i j l none (.lst ds) p u hv hj e1 z)⟩
  obtain ⟨B', e2, R1, r⟩ := nw.freeze R0
  have R2 := R1.put (i := i) (by simpa using hil) r
  rw [List.set_set, List.set_set] at R2
  have es : σ.set i (some (V.ref l)) = σ := by
    apply List.ext_getElem?
    intro j
    by_cases e : i = j
    · subst e
      rw [List.getElem?_set_self (by rw [R.len]; exact hil), e1]
    · rw [List.getElem?_set_ne e]
  rw [es] at R2
  exact WE.of n.pe ⟨.ref l, e1, B', _, _, e2, R2, r, hk⟩
end
end AX
/-! zip(t, u, strict=True) of two tuples of one length -/
namespace ZS
open PySem PySem.W RZ
open PySem.Sem (wp)
/-- a strict zip's record -/
def SZip (h : Heap) (z TI TO : Addr) (f0 : Value) : Prop := h.get? z = some { cls := .type "zip", dict := none, data := .fields #[f0, .bool false, .bool true, .ref TI, .ref TO], slots := #[] }
abbrev skw : List (Str × Value) := [(Str.ofString "strict", .bool true)]
theorem tcall (a b : Value) : checkTypeCall "zip" ⟨[a, b], skw⟩ = pure () := by kernel_rfl
theorem ncall (a b : Value) : checkBuiltinCall "zip.__new__" ⟨[.type "zip", a, b], skw⟩ = pure () := by kernel_rfl
theorem aok (obj a b : Value) : argsOk "object.__init__" ⟨[obj, a, b], skw⟩ := by unfold argsOk; kernel_rfl
abbrev H5 (h : Heap) (l1 l2 : Addr) : Heap := (zipTH4 h l1 l2).push { cls := .type "zip", data := .fields #[.none, .bool false, .bool true, .ref (zipTH2 h l1 l2).objs.size, .ref (zipTH3 h l1 l2).objs.size] }
theorem meets_new (l1 l2 : Addr) (xs ys : Array Value) :
    Meets (Builtin.«zip.__new__» ⟨[.type "zip", .ref l1, .ref l2], skw⟩) (fun _ R s => s.heap.IsTuple l1 xs ∧ s.heap.IsTuple l2 ys ∧ R (.ok (.ret (.ref (zipTH4 s.heap l1 l2).objs.size))) { s with heap := H5 s.heap l1 l2 }) :=
  Meets.of_wp fun prog w A R s hyp => by
    obtain ⟨hp, g, d, tk, os⟩ := s
    obtain ⟨t1, t2, fin⟩ := hyp
    have sub0 := sub_zip
    have w1 : Heap.IsTuple (Shared.heap ⟨hp, g, d, tk, os⟩) l1 xs := t1
    have w2 : Heap.IsTuple (Shared.heap ⟨hp.push { cls := .type "tuple_iterator", data := .fields #[.ref l1, .int 0 0] }, g, d, tk, os⟩) l2 ys := Heap.IsTuple.push t2 _
    have e2 : (Str.ofString "strict" != ("strict" : Str)) = false := by decide +kernel
    wp_walk using wpAny_pyIter_tuple w1, wpAny_pyIter_tuple w2
    exact ⟨_, rfl, fin⟩

end ZS
namespace ZS
open PySem PySem.W RZ
open PySem.Sem (wp)
section
variable {prog : Program} {w : World} {A : Around} {E : Value → Shared → Prop} {s : Shared}
/-- a tuple's iterator asked: an item -/
theorem ask_item {it l : Addr} {i : Nat} {items : Array Value} {x : Value} {Q : Option Value → Shared → Prop} (hit : s.heap.IsTupleIter it l i) (hl : s.heap.IsTuple l items) (hx : items[i]? = some x) (hQ : ∀ h', h'.IsTupleIter it l (i + 1) → Heap.SameBut it s.heap h' → Q (some x) { s with heap := h' }) : wpAny (model prog w) A (Builtin.SmallTypes.nextOrEnd (.ref it)) Q E s := by
  unfold Builtin.SmallTypes.nextOrEnd
  exact wpAny_bind (wpAny_attempt (nextOf_tuple_item hit hl hx fun h' a b => wpAny_pure (hQ h' a b)))
/-- .. its end -/
theorem ask_end {it l : Addr} {i : Nat} {items : Array Value} {Q : Option Value → Shared → Prop} (hh : A.handled = none) (hit : s.heap.IsTupleIter it l i) (hl : s.heap.IsTuple l items) (hx : items[i]? = none) (hQ : ∀ h', Heap.ExtBut it s.heap h' → Q none { s with heap := h' }) : wpAny (model prog w) A (Builtin.SmallTypes.nextOrEnd (.ref it)) Q E s := by
  unfold Builtin.SmallTypes.nextOrEnd
  refine wpAny_bind (wpAny_attempt (nextOf_tuple_end hh hit hl hx fun h' e a b => ?_)); obtain ⟨o, ho, hc⟩ := b
  exact wpAny_bind (wpAny_isInstance (T := "StopIteration") (b := true) ⟨o, ho, hc⟩ isSubtype_stop (wpAny_pure (hQ h' a)))
variable {z TI TO i1 i2 l1 l2 : Addr} {k1 k2 : Nat} {xs ys : Array Value} {x y a b : Value}
theorem next_item {Q : Value → Shared → Prop} (D : ZipApart z TI TO i1 i2 l1 l2) (hz : SZip s.heap z TI TO .none) (hTI : IsPair s.heap TI (.ref i1) (.ref i2)) (hTO : IsPair s.heap TO a b)
    (h1 : s.heap.IsTupleIter i1 l1 k1) (h2 : s.heap.IsTupleIter i2 l2 k2) (hl1 : s.heap.IsTuple l1 xs) (hl2 : s.heap.IsTuple l2 ys) (hx : xs[k1]? = some x) (hy : ys[k2]? = some y)
    (hQ : ∀ h', SZip h' z TI TO (rawInt s.heap.objs.size) → IsPair h' TO x y → h'.IsTupleIter i1 l1 (k1 + 1) → h'.IsTupleIter i2 l2 (k2 + 1) → IsPair h' s.heap.objs.size x y → h'.objs.size = s.heap.objs.size + 1 → (∀ c o, c ≠ z → c ≠ TO → c ≠ i1 → c ≠ i2 → s.heap.get? c = some o → h'.get? c = some o) → Q (.ref s.heap.objs.size) { s with heap := h' }) :
    wpAny (model prog w) A (Builtin.«zip.__next__» ⟨[.ref z], []⟩) (fun fin s' => ∃ v, fin = .done (.ret v) ∧ Q v s') E s := by
  show wpAny _ _ (field (.ref z) 2 >>= _) _ _ _; refine wpAny_bind (wpAny_field hz rfl (x := .bool true) rfl ?_)
  show wpAny _ _ (field (.ref z) 3 >>= _) _ _ _; refine wpAny_bind (wpAny_field hz rfl (x := .ref TI) rfl ?_)
  refine wpAny_bind (wpAny_seqItems hTI rfl ?_); show wpAny _ _ (Builtin.SmallTypes.ownedTupleIsFree (.ref z) >>= _) _ _ _
  refine wpAny_bind ?_; unfold Builtin.SmallTypes.ownedTupleIsFree; refine wpAny_bind (wpAny_field hz rfl (x := .none) rfl (wpAny_pure ?_))
  simp only [if_true]; refine wpAny_bind (wpAny_rule ?_); refine wpAny_bind (wpAny_field hz rfl (x := .ref TO) rfl ?_)
  refine wpAny_bind (wpAny_setField_rec hz (by simp) fun g1 z1 s1 => ?_); replace z1 : SZip g1 z TI TO .ellipsis := z1
  refine wpAny_bind ?_; simp only [List.zipIdx_cons, List.zipIdx_nil, List.forIn_cons, List.forIn_nil]
  -- the first
  refine wpAny_bind (wpAny_bind (wpAny_onRaise ?_)); show wpAny _ _ (Builtin.SmallTypes.nextOrEnd (.ref i1)) _ _ _
  refine ask_item (h1.extBut s1.extBut D.i1z) (hl1.extBut s1.extBut D.l1z) hx fun g2 i1' s2 => ?_
  have p2 : IsPair g2 TO a b := s2.extBut _ _ D.TOi1 (s1.extBut _ _ D.TOz hTO)
  refine wpAny_bind (wpAny_seqItems p2 rfl ?_); refine wpAny_bind (wpAny_updateSeq_pair p2 fun g3 p3 s3 => ?_); replace p3 : IsPair g3 TO x b := p3
  refine wpAny_bind (wpAny_letGo (wpAny_pure ?_))
  -- the second
  refine wpAny_bind (wpAny_bind (wpAny_onRaise ?_)); show wpAny _ _ (Builtin.SmallTypes.nextOrEnd (.ref i2)) _ _ _
  refine ask_item (((h2.extBut s1.extBut D.i2z).extBut s2.extBut D.i12.symm).extBut s3.extBut D.TOi2.symm) (((hl2.extBut s1.extBut D.l2z).extBut s2.extBut D.l2i1).extBut s3.extBut D.l2TO) hy fun g4 i2' s4 => ?_
  have p4 : IsPair g4 TO x b := s4.extBut _ _ D.TOi2 p3
  refine wpAny_bind (wpAny_seqItems p4 rfl ?_); refine wpAny_bind (wpAny_updateSeq_pair p4 fun g5 p5 s5 => ?_); replace p5 : IsPair g5 TO x y := p5
  refine wpAny_bind (wpAny_letGo (wpAny_pure (wpAny_pure ?_))); refine wpAny_bind (wpAny_seqItems p5 rfl ?_); refine wpAny_bind (wpAny_newTuple ?_)
  have sz : g5.objs.size = s.heap.objs.size := by rw [s5.1, s4.1, s3.1, s2.1, s1.1]
  have z5 : SZip g5 z TI TO .ellipsis := s5.extBut _ _ D.TOz.symm (s4.extBut _ _ D.i2z.symm (s3.extBut _ _ D.TOz.symm (s2.extBut _ _ D.i1z.symm z1)))
  have keep : ∀ c o, c ≠ z → c ≠ TO → c ≠ i1 → c ≠ i2 → s.heap.get? c = some o → g5.get? c = some o := fun c o c1 c2 c3 c4 e => s5.extBut _ _ c2 (s4.extBut _ _ c4 (s3.extBut _ _ c2 (s2.extBut _ _ c3 (s1.extBut _ _ c1 e))))
  have j1 : g5.IsTupleIter i1 l1 (k1 + 1) := ((i1'.extBut s3.extBut D.TOi1.symm).extBut s4.extBut D.i12).extBut s5.extBut D.TOi1.symm
  have j2 : g5.IsTupleIter i2 l2 (k2 + 1) := i2'.extBut s5.extBut D.TOi2.symm
  have zlt : z < g5.objs.size := Heap.lt_size z5
  show wpAny _ _ (Builtin.SmallTypes.ownedTupleHandOut (.ref z) (.ref g5.objs.size) >>= _) _ _ _
  refine wpAny_bind ?_; unfold Builtin.SmallTypes.ownedTupleHandOut
  have z6 : SZip (g5.push { cls := .type "tuple", data := .seq #[x, y] }) z TI TO .ellipsis := Heap.get?_push_of_some _ z5
  refine wpAny_bind (wpAny_setField_rec z6 (by simp) fun g7 z7 s7 => ?_); replace z7 : SZip g7 z TI TO (rawInt g5.objs.size) := z7
  refine wpAny_setField_rec z7 (by simp) fun g8 z8 s8 => ?_; replace z8 : SZip g8 z TI TO (rawInt g5.objs.size) := z8
  have up : ∀ c o, c ≠ z → g5.get? c = some o → g8.get? c = some o := fun c o c1 e => s8.extBut _ _ c1 (s7.extBut _ _ c1 (Heap.get?_push_of_some _ e))
  have pt : IsPair g8 g5.objs.size x y := s8.extBut _ _ (Nat.ne_of_gt zlt) (s7.extBut _ _ (Nat.ne_of_gt zlt) (Heap.get?_push_size _ rfl))
  have sz8 : g8.objs.size = g5.objs.size + 1 := by rw [s8.1, s7.1, Heap.size_push]
  rw [sz] at z8 pt sz8
  refine wpAny_pure ⟨_, rfl, ?_⟩; show Q (.ref g5.objs.size) _; rw [sz]
  exact hQ g8 z8 (up _ _ D.TOz p5) (j1.at fun o e => up _ o D.i1z e) (j2.at fun o e => up _ o D.i2z e) pt sz8 fun c o c1 c2 c3 c4 e => up c o c1 (keep c o c1 c2 c3 c4 e)
theorem next_end {Q : Fin → Shared → Prop} (hh : A.handled = none) (D : ZipApart z TI TO i1 i2 l1 l2) (hz : SZip s.heap z TI TO .none) (hTI : IsPair s.heap TI (.ref i1) (.ref i2)) (hTO : IsPair s.heap TO a b)
    (h1 : s.heap.IsTupleIter i1 l1 k1) (h2 : s.heap.IsTupleIter i2 l2 k2) (hl1 : s.heap.IsTuple l1 xs) (hl2 : s.heap.IsTuple l2 ys) (hx : xs[k1]? = none) (hy : ys[k2]? = none)
    (hE : ∀ h' e, (∀ c o, c ≠ z → c ≠ TO → c ≠ i1 → c ≠ i2 → s.heap.get? c = some o → h'.get? c = some o) → (∃ o, h'.get? e = some o ∧ o.cls = .type "StopIteration") → E (.ref e) { s with heap := h' }) : wpAny (model prog w) A (Builtin.«zip.__next__» ⟨[.ref z], []⟩) Q E s := by
  show wpAny _ _ (field (.ref z) 2 >>= _) _ _ _; refine wpAny_bind (wpAny_field hz rfl (x := .bool true) rfl ?_)
  show wpAny _ _ (field (.ref z) 3 >>= _) _ _ _; refine wpAny_bind (wpAny_field hz rfl (x := .ref TI) rfl ?_)
  refine wpAny_bind (wpAny_seqItems hTI rfl ?_); show wpAny _ _ (Builtin.SmallTypes.ownedTupleIsFree (.ref z) >>= _) _ _ _
  refine wpAny_bind ?_; unfold Builtin.SmallTypes.ownedTupleIsFree; refine wpAny_bind (wpAny_field hz rfl (x := .none) rfl (wpAny_pure ?_))
  simp only [if_true]; refine wpAny_bind (wpAny_rule ?_); refine wpAny_bind (wpAny_field hz rfl (x := .ref TO) rfl ?_)
  refine wpAny_bind (wpAny_setField_rec hz (by simp) fun g1 z1 s1 => ?_); replace z1 : SZip g1 z TI TO .ellipsis := z1
  refine wpAny_bind ?_; simp only [List.zipIdx_cons, List.zipIdx_nil, List.forIn_cons, List.forIn_nil]
  refine wpAny_bind (wpAny_bind (wpAny_onRaise ?_)); show wpAny _ _ (Builtin.SmallTypes.nextOrEnd (.ref i1)) _ _ _
  refine ask_end hh (h1.extBut s1.extBut D.i1z) (hl1.extBut s1.extBut D.l1z) hx fun g2 s2 => ?_
  have z2 : SZip g2 z TI TO .ellipsis := s2 _ _ D.i1z.symm z1
  show wpAny _ _ (setField (.ref z) 0 .none >>= _) _ _ _
  refine wpAny_bind (wpAny_setField_rec z2 (by simp) fun g3 z3 s3 => ?_); replace z3 : SZip g3 z TI TO .none := z3
  have j2 : g3.IsTupleIter i2 l2 k2 := ((h2.extBut s1.extBut D.i2z).extBut s2 D.i12.symm).extBut s3.extBut D.i2z
  have t2 : g3.IsTuple l2 ys := ((hl2.extBut s1.extBut D.l2z).extBut s2 D.l2i1).extBut s3.extBut D.l2z
  refine wpAny_bind ?_
  show wpAny _ _ (_ >>= _) _ _ _
  refine wpAny_bind ?_
  show wpAny _ _ (forIn [(Value.ref i2, 1)] PUnit.unit _) _ _ _
  rw [List.forIn_cons]
  refine wpAny_bind ?_
  show wpAny _ _ (Builtin.SmallTypes.nextOrEnd (.ref i2) >>= _) _ _ _
  refine wpAny_bind (ask_end hh j2 t2 hy fun g4 s4 => ?_)
  refine wpAny_pure ?_
  show wpAny _ _ (pure PUnit.unit) _ _ _
  refine wpAny_pure (wpAny_bind (wpAny_rule ?_))
  have e5 : ∀ c o, c ≠ z → c ≠ TO → c ≠ i1 → c ≠ i2 → s.heap.get? c = some o → g4.get? c = some o := fun c o c1 c2 c3 c4 e => s4 _ _ c4 (s3.extBut _ _ c1 (s2 _ _ c3 (s1.extBut _ _ c1 e)))
  show wpAny _ _ (newExc (.type "StopIteration") [] >>= _) _ _ _
  refine wpAny_bind ?_
  simp only [newExc, newTuple]
  refine wpAny_bind (wpAny_newObj_type ?_ (by size_fits))
  refine wpAny_bind (m := firstArgMember _ _) (wpAny_of_eq (a := Value.none) (by first | rfl | (simp only [firstArgMember]; rfl)) ?_)
  refine wpAny_newObj_type ?_ (by size_fits)
  simp only [raiseNew]
  refine wpAny_bind (wpAny_handled ?_)
  rw [hh]
  refine wpAny_bind (wpAny_pure (wpAny_throw ?_))
  exact hE _ _ (fun c o c1 c2 c3 c4 e => Heap.get?_push_of_some _ (Heap.get?_push_of_some _ (e5 c o c1 c2 c3 c4 e))) ⟨_, Heap.get?_push_size _ rfl, rfl⟩
end
end ZS
namespace ZS
open PySem PySem.W RZ
open PySem.Sem (wp)
section
variable {prog : Program} {w : World} {A : Around} {E : Value → Shared → Prop} {s : Shared}
variable {z TI TO i1 i2 l1 l2 : Addr} {k1 k2 : Nat} {xs ys : Array Value} {x y a b : Value}
theorem step_item {Q : Option Value → Shared → Prop} (D : ZipApart z TI TO i1 i2 l1 l2) (hz : SZip s.heap z TI TO .none) (hTI : IsPair s.heap TI (.ref i1) (.ref i2)) (hTO : IsPair s.heap TO a b)
    (h1 : s.heap.IsTupleIter i1 l1 k1) (h2 : s.heap.IsTupleIter i2 l2 k2) (hl1 : s.heap.IsTuple l1 xs) (hl2 : s.heap.IsTuple l2 ys) (hx : xs[k1]? = some x) (hy : ys[k2]? = some y)
    (hQ : ∀ h', SZip h' z TI TO (rawInt s.heap.objs.size) → IsPair h' TO x y → h'.IsTupleIter i1 l1 (k1 + 1) → h'.IsTupleIter i2 l2 (k2 + 1) → IsPair h' s.heap.objs.size x y → h'.objs.size = s.heap.objs.size + 1 → (∀ c o, c ≠ z → c ≠ TO → c ≠ i1 → c ≠ i2 → s.heap.get? c = some o → h'.get? c = some o) → Q (some (.ref s.heap.objs.size)) { s with heap := h' }) :
    wpAny (model prog w) A (pyNext (.ref z)) Q E s := by
  unfold pyNext; have ty : s.TypeIs (.ref z) "zip" := ⟨_, hz, rfl⟩
  refine wpAny_bind (wpAny_attempt (wpAny_callSpecial?_slot (name := Str.ofString "__next__") ty F.slot_zip_next (wpAny_call_entry F.slot_zip_next ty F.entry_zip_next ?_ (F.args_zip_next_1 _))))
  exact next_item D hz hTI hTO h1 h2 hl1 hl2 hx hy fun h' a1 a2 a3 a4 a5 a6 a7 => wpAny_pure (hQ h' a1 a2 a3 a4 a5 a6 a7)
theorem step_end {Q : Option Value → Shared → Prop} (hh : A.handled = none) (D : ZipApart z TI TO i1 i2 l1 l2) (hz : SZip s.heap z TI TO .none) (hTI : IsPair s.heap TI (.ref i1) (.ref i2)) (hTO : IsPair s.heap TO a b)
    (h1 : s.heap.IsTupleIter i1 l1 k1) (h2 : s.heap.IsTupleIter i2 l2 k2) (hl1 : s.heap.IsTuple l1 xs) (hl2 : s.heap.IsTuple l2 ys) (hx : xs[k1]? = none) (hy : ys[k2]? = none)
    (hQ : ∀ h', (∀ c o, c ≠ z → c ≠ TO → c ≠ i1 → c ≠ i2 → s.heap.get? c = some o → h'.get? c = some o) → Q none { s with heap := h' }) : wpAny (model prog w) A (pyNext (.ref z)) Q E s := by
  unfold pyNext; have ty : s.TypeIs (.ref z) "zip" := ⟨_, hz, rfl⟩
  refine wpAny_bind (wpAny_attempt (wpAny_callSpecial?_slot (name := Str.ofString "__next__") ty F.slot_zip_next (wpAny_call_entry F.slot_zip_next ty F.entry_zip_next ?_ (F.args_zip_next_1 _))))
  refine next_end hh D hz hTI hTO h1 h2 hl1 hl2 hx hy fun h' e hk he => ?_; obtain ⟨o, ho, hc⟩ := he
  exact wpAny_bind (wpAny_isInstance (T := "StopIteration") (b := true) ⟨o, ho, hc⟩ isSubtype_stop (wpAny_pure (hQ _ hk)))
theorem own_go {elts : List Expr} {x1} {pos : Pos} {T : Addr} {Q : Unit → Shared → Prop} (hz : SZip s.heap z TI TO (rawInt T)) (hQ : ∀ h', SZip h' z TI TO .none → Heap.SameBut z s.heap h' → Q () { s with heap := h' }) : wpAny (model prog w) A (letOwnedTupleGo (.Tuple elts x1 pos) (.ref z) (.ref T)) Q E s := by
  unfold letOwnedTupleGo; refine wpAny_bind (wpAny_load hz ?_)
  show wpAny _ _ (if (_ && (#[rawInt T, .bool false, .bool true, .ref TI, .ref TO] : Array Value)[0]? == some (rawInt T)) = true then _ else _) Q E s
  rw [if_pos (by simp)]; refine wpAny_bind (wpAny_rule ?_)
  show wpAny _ _ (setField (.ref z) 0 .none) Q E s
  exact wpAny_setField_rec hz (by simp) fun h' hz' hs' => hQ h' hz' hs'
theorem iter_self {f0 : Value} {Q : Value → Shared → Prop} (hz : SZip s.heap z TI TO f0) (h : Q (.ref z) s) : wpAny (model prog w) A (pyIter (.ref z)) Q E s := by
  have ty : s.TypeIs (.ref z) "zip" := ⟨_, hz, rfl⟩
  exact wpAny_pyIter_slot ty F.slot_zip_iter (wpAny_call_entry F.slot_zip_iter ty F.entry_zip_iter (wpAny_pure ⟨_, rfl, "zip", _, ty, F.slot_zip_next.lookup, h⟩) (F.args_zip_iter_1 _))
theorem zcall {Q : Value → Shared → Prop} (hl1 : s.heap.IsTuple l1 xs) (hl2 : s.heap.IsTuple l2 ys)
    (h : ∀ h', SZip h' (s.heap.objs.size + 4) (s.heap.objs.size + 2) (s.heap.objs.size + 3) .none → IsPair h' (s.heap.objs.size + 2) (.ref s.heap.objs.size) (.ref (s.heap.objs.size + 1)) → IsPair h' (s.heap.objs.size + 3) .none .none →
      h'.IsTupleIter s.heap.objs.size l1 0 → h'.IsTupleIter (s.heap.objs.size + 1) l2 0 → (∀ c o, s.heap.get? c = some o → h'.get? c = some o) → Q (.ref (s.heap.objs.size + 4)) { s with heap := h' }) :
    wpAny (model prog w) A (call (.type "zip") [.ref l1, .ref l2] skw) Q E s := by
  refine callType_newKw F.called_zip (by decide) (tcall _ _) (ncall _ _) (fun obj => aok obj _ _) F.entry_zip_new (meets_new l1 l2 xs ys) ⟨hl1, hl2, ?_⟩
  have n1 : (zipTH1 s.heap l1).objs.size = s.heap.objs.size + 1 := Heap.size_push ..
  have n2 : (zipTH2 s.heap l1 l2).objs.size = s.heap.objs.size + 2 := by rw [Heap.size_push, n1]
  have n3 : (zipTH3 s.heap l1 l2).objs.size = s.heap.objs.size + 3 := by rw [Heap.size_push, n2]
  have n4 : (zipTH4 s.heap l1 l2).objs.size = s.heap.objs.size + 4 := by rw [Heap.size_push, n3]
  have p5 : (H5 s.heap l1 l2).get? (zipTH4 s.heap l1 l2).objs.size = some _ := Heap.get?_push_size _ rfl
  have u5 : ∀ c o, (zipTH4 s.heap l1 l2).get? c = some o → (H5 s.heap l1 l2).get? c = some o := fun c o e => Heap.get?_push_of_some _ e
  have u4 : ∀ c o, (zipTH3 s.heap l1 l2).get? c = some o → (H5 s.heap l1 l2).get? c = some o := fun c o e => u5 _ _ (Heap.get?_push_of_some _ e)
  have u3 : ∀ c o, (zipTH2 s.heap l1 l2).get? c = some o → (H5 s.heap l1 l2).get? c = some o := fun c o e => u4 _ _ (Heap.get?_push_of_some _ e)
  have u2 : ∀ c o, (zipTH1 s.heap l1).get? c = some o → (H5 s.heap l1 l2).get? c = some o := fun c o e => u3 _ _ (Heap.get?_push_of_some _ e)
  have p4 : (H5 s.heap l1 l2).get? (zipTH3 s.heap l1 l2).objs.size = some _ := u5 _ _ (Heap.get?_push_size _ rfl)
  have p3 : (H5 s.heap l1 l2).get? (zipTH2 s.heap l1 l2).objs.size = some _ := u4 _ _ (Heap.get?_push_size _ rfl)
  have p2 : (H5 s.heap l1 l2).get? (zipTH1 s.heap l1).objs.size = some _ := u3 _ _ (Heap.get?_push_size _ rfl)
  have p1 : (H5 s.heap l1 l2).get? s.heap.objs.size = some _ := u2 _ _ (Heap.get?_push_size _ rfl)
  rw [n2, n3, n4] at p5; rw [n1, n2] at p3; rw [n3] at p4; rw [n1] at p2
  show _ ∧ _
  rw [n4]
  exact ⟨⟨_, p5, rfl⟩, h _ p5 p3 p4 ⟨_, p1, rfl, rfl⟩ ⟨_, p2, rfl, rfl⟩ fun c o e => u2 _ _ (Heap.get?_push_of_some _ e)⟩
end
open PySem.Spec PyProof.Rows L2
/-- two tuples of one length as they stand at each turn, the items in new pairs -/
def ItZ (K : PySem.W.Frag) (a b : Addr) : It :=
  ⟨fun i H => ∃ (xs ys : List V) (x y : V), SqT K H a xs ∧ SqT K H b ys ∧ xs[i]? = some x ∧ ys[i]? = some y,
    fun i H v H' => ∃ T x y, v = .ref T ∧ H T = none ∧ H' = upd H T (.tup [x, y]) ∧ (∀ xs, SqT K H a xs → xs[i]? = some x) ∧ ∀ ys, SqT K H b ys → ys[i]? = some y,
    fun i H => ∃ xs ys : List V, SqT K H a xs ∧ SqT K H b ys ∧ xs.length ≤ i ∧ ys.length ≤ i⟩
theorem five {z TI TO i1 i2 c : Addr} (h : c ∈ [z, TI, TO, i1, i2]) : c = z ∨ c = TI ∨ c = TO ∨ c = i1 ∨ c = i2 := by simpa using h
theorem off5 {z TI TO i1 i2 c : Addr} (h : ¬ c ∈ [z, TI, TO, i1, i2]) : c ≠ z ∧ c ≠ TO ∧ c ≠ i1 ∧ c ≠ i2 := ⟨fun q => h (by simp [q]), fun q => h (by simp [q]), fun q => h (by simp [q]), fun q => h (by simp [q])⟩
def ZSt (z TI TO i1 i2 a b : Addr) (i : Nat) (h : Heap) : Prop := SZip h z TI TO .none ∧ IsPair h TI (.ref i1) (.ref i2) ∧ (∃ x y, IsPair h TO x y) ∧ h.IsTupleIter i1 a i ∧ h.IsTupleIter i2 b i
theorem turn {P : Program} {w : World} {K : PySem.W.Frag} {elts : List Expr} {kk : Nat} {tpos : Pos} {a b z TI TO i1 i2 : Addr} (D : ZipApart z TI TO i1 i2 a b) : Turn P w K (.Tuple elts kk tpos) (ItZ K a b) [z, TI, TO, i1, i2] z (ZSt z TI TO i1 i2 a b) where
  mem := by simp
  obj := fun i h ⟨hz, hTI, ⟨x, y, hTO⟩, ⟨o1, e1, _, d1⟩, ⟨o2, e2, _, d2⟩⟩ c hc => by
    rcases five hc with q | q | q | q | q <;> rw [q]
    · exact ⟨_, hz, fun v q => nomatch q⟩
    · exact ⟨_, hTI, fun v q => nomatch q⟩
    · exact ⟨_, hTO, fun v q => nomatch q⟩
    · exact ⟨o1, e1, fun v q => by rw [d1] at q; cases q⟩
    · exact ⟨o2, e2, fun v q => by rw [d2] at q; cases q⟩
  keep := fun i h h' ⟨hz, hTI, ⟨x, y, hTO⟩, h1, h2⟩ k => ⟨k z (by simp) _ hz, k TI (by simp) _ hTI, ⟨x, y, k TO (by simp) _ hTO⟩, h1.at fun o q => k i1 (by simp) o q, h2.at fun o q => k i2 (by simp) o q⟩
  item := by
    intro X hP hw hK hc i pins s σ H E I hf st hg; subst hP hw hK
    obtain ⟨⟨hz, hTI, ⟨x0, y0, hTO⟩, h1, h2⟩, ⟨xs, ys, x, y, hqx, hqy, hx, hy⟩⟩ := And.intro st hg
    obtain ⟨⟨its, rv, p, _⟩, ⟨its2, rv2, p2, _⟩⟩ := And.intro (I.tuple hqx) (I.tuple hqy)
    obtain ⟨⟨u, hu, ru⟩, ⟨u2, hu2, ru2⟩⟩ := And.intro (rv.get hx) (rv2.get hy)
    have zl : z < s.heap.objs.size := Heap.lt_size hz
    refine step_item D hz hTI hTO h1 h2 p p2 (x := u) (y := u2) (by simpa using hu) (by simpa using hu2) fun h' z' TO' g1 g2 hT hsz hk => ?_
    refine ⟨_, rfl, own_go (s := { s with heap := h' }) z' fun h'' z'' sb => ?_⟩
    have hT2 : h''.get? s.heap.objs.size = some { cls := .type "tuple", data := .seq #[u, u2] } := (sb.2 _ (Nat.ne_of_gt zl)).trans hT
    have new : ObjOk X.prog X.w (upd H s.heap.objs.size (.tup [x, y])) h'' s.heap.objs.size (.tup [x, y]) := ⟨by show 2 ≤ sizeLine; decide, [u, u2], .cons ru (.cons ru2 .nil), ⟨_, hT2, rfl, _, rfl⟩⟩
    have I1 : Inv X pins σ (upd H s.heap.objs.size (.tup [x, y])) { s with heap := h'' } := I.turnedNew (t' := s.toks) (ch := [z, TI, TO, i1, i2]) (fun c o hb q => by
      obtain ⟨c1, c2, c3, c4⟩ := off5 hb
      exact (sb.2 c c1).trans (hk c o c1 c2 c3 c4 q)) hf (Nat.le_refl _) new
    have up : ∀ c o, c ≠ z → h'.get? c = some o → h''.get? c = some o := fun c o c1 e => (sb.2 _ c1).trans e
    refine ⟨.ref s.heap.objs.size, _, I1, rfl, ⟨_, x, y, rfl, I.hok.fresh (Nat.le_refl _), rfl, fun l hl => by rw [I.tuple_inj hl hqx]; exact hx, fun l hl => by rw [I.tuple_inj hl hqy]; exact hy⟩, ⟨z'', up _ _ D.TIz (hk _ _ D.TIz D.TITO D.TIi1 D.TIi2 hTI), ⟨u, u2, up _ _ D.TOz TO'⟩, g1.at fun o q => up _ o D.i1z q, g2.at fun o q => up _ o D.i2z q⟩, fun c hcm => ?_⟩
    have old : c < s.heap.objs.size := by
      rcases five hcm with q | q | q | q | q <;> rw [q]
      · exact zl
      · exact Heap.lt_size hTI
      · exact Heap.lt_size hTO
      · obtain ⟨_, e1, _⟩ := h1; exact Heap.lt_size e1
      · obtain ⟨_, e2, _⟩ := h2; exact Heap.lt_size e2
    rw [upd_ne (Nat.ne_of_lt old)]; exact (hf c hcm).1
  done := by
    intro X hP hw hK hc i pins s σ H E I hf st hg; subst hP hw hK
    obtain ⟨⟨hz, hTI, ⟨x0, y0, hTO⟩, h1, h2⟩, ⟨xs, ys, hqx, hqy, n1, n2⟩⟩ := And.intro st hg
    obtain ⟨⟨its, rv, p, _⟩, ⟨its2, rv2, p2, _⟩⟩ := And.intro (I.tuple hqx) (I.tuple hqy)
    have e1 := rv.length; have e2 := rv2.length
    exact step_end (I.ok.hd hc) D hz hTI hTO h1 h2 p p2 (by simp; omega) (by simp; omega) fun h' hk => ⟨rfl, I.turnedL (t' := s.toks) (ch := [z, TI, TO, i1, i2]) (fun c o hb q => by
      obtain ⟨c1, c2, c3, c4⟩ := off5 hb
      exact hk c o c1 c2 c3 c4 q) hf⟩
  self := fun A i s Q E st h => iter_self st.1 h
/-- the call of a class by keywords -/
theorem with_ty {M : Model} {A : Around} {E : Value → Shared → Prop} {s : Shared} {pos : Pos} {T : String} {args : List (Bool × Sem Value)} {keywords : List (Option Str × Sem Value)} {Q : Value → Shared → Prop} (hplain : args.any (·.1) = false) (hkw : keywords.any (·.1.isNone) = false)
    (h : wpAny M A (evalArgs (.type T) true args keywords) (fun a s₁ => wpAny M A (call (.type T) a.pos a.kw) Q E s₁) E s) : wpAny M A (callWith pos (.type T) [] args keywords) Q E s := by
  unfold callWith
  refine wpAny_bind (wpAny_holding (wpAny_mono h (fun a s₁ h₁ => wpAny_bind (wpAny_standAt ?_)) fun _ _ x => x)); simp only [hplain, hkw, Bool.or_false]
  exact wpAny_bind (wpAny_pure (wpAny_bind (wpAny_mono h₁ (fun r s₂ hr => wpAny_bind (wpAny_holding (wpAny_point (wpAny_pure hr)))) fun _ _ x => x)))
def iZ (K : PySem.W.Frag) (ta : TA) : TI := fun σ H R => ta σ H fun vs H1 => ∃ a b xs ys, vs = [.ref a, .ref b] ∧ SqT K H1 a xs ∧ SqT K H1 b ys ∧ R (ItZ K a b) H1
theorem pi_z {X : Cx} {e e2 : Expr} {ta : TA} {p pos tpos kp cp : Pos} {elts : List Expr} {kk cj : Nat} (hg : Gl X "zip") (hm : X.mg "zip" = none) (ha : PA X [e, e2] ta) (hs : starEach [e, e2] X.env = (false, eval e X.env) :: starEach [e2] X.env := by rfl) (hpl : (backTo pos (starEach [e, e2] X.env)).any (·.1) = false := by rfl) :
    PI X (.Tuple elts kk tpos) (.Call (.Name "zip" p) [e, e2] [⟨some (Str.ofString "strict"), .Constant (.bool true) cj cp, kp⟩] pos) (iZ X.K ta) := by
  refine ⟨fun pins s σ H R I h => wpAny_Call_Name_kw (ld_blt I hg hm PyProof.Rows.boot_zip (with_ty hpl rfl (PyProof.Rows.evalArgs_kw2 rfl (thn (ha.run pos pins s σ H _ I h) fun us s1 ⟨vs, H1, I1, r1, q1⟩ => PyProof.Rows.kwAll_cons (thn (pe_bl.run pins s1 σ H1 (fun v H2 => v = .bl true ∧ H2 = H1) I1 ⟨rfl, rfl⟩) fun kv s2 ⟨v, H2, I2, r2, q2⟩ => PyProof.Rows.kwAll_nil ?_)) hs)))⟩
  obtain ⟨rfl, rfl⟩ := q2; cases r2; obtain ⟨a, b, xs, ys, rfl, hqx, hqy, q⟩ := q1
  cases r1 with
  | cons r rr =>
    cases rr with
    | cons r' rr =>
      cases rr; cases r; cases r'
      have fresh5 : ∀ c, c ∈ [s2.heap.objs.size + 4, s2.heap.objs.size + 2, s2.heap.objs.size + 3, s2.heap.objs.size, s2.heap.objs.size + 1] → FpOk X pins H2 c := fun c hcm => by
        have hle : s2.heap.objs.size ≤ c := by rcases five hcm with z | z | z | z | z <;> rw [z] <;> omega
        exact I2.fpOk hle (I2.hok.fresh hle)
      obtain ⟨⟨its, rv, p1, _⟩, ⟨its2, rv2, p2, _⟩⟩ := And.intro (I2.tuple hqx) (I2.tuple hqy)
      obtain ⟨⟨o1, ho1, _⟩, ⟨o2, ho2, _⟩⟩ := And.intro (id p1) (id p2)
      show wpAny _ _ (call (.type "zip") [.ref a, .ref b] skw) _ _ _
      refine zcall (show s2.heap.IsTuple a its.toArray from p1) (show s2.heap.IsTuple b its2.toArray from p2) fun h' hz hTI hTO h1 h2 hk => iter_self hz ?_
      have I3 : Inv X pins σ H2 { s2 with heap := h' } := I2.kept (t' := s2.toks) hk
      exact ⟨s2.heap.objs.size + 4, [s2.heap.objs.size + 4, s2.heap.objs.size + 2, s2.heap.objs.size + 3, s2.heap.objs.size, s2.heap.objs.size + 1], _, _, H2, rfl, I3, turn (PySem.W.ktu_apart s2.heap.objs.size a b (Heap.lt_size ho1) (Heap.lt_size ho2)), ⟨hz, hTI, ⟨_, _, hTO⟩, h1, h2⟩, fresh5, q⟩
end ZS
/-! enumerate(t), t a tuple -/
namespace EN
open PySem PySem.W RZ
open PySem.Sem (wp)
theorem meets1 {v : Value} {o : Obj} {H : Heap → Prop} (B : Begins v o H) :
    Meets (Builtin.«enumerate.__new__» ⟨[.type "enumerate", v], []⟩) (fun _ R s => H s.heap ∧ R (.ok (.ret (.ref (s.heap.push o).objs.size))) { s with heap := (s.heap.push o).push { cls := .type "enumerate", data := .fields #[.none, .bool false, .ref s.heap.objs.size, rawInt 0, .none, .none] } }) :=
  .of_wp fun prog w A R s hyp => by
    obtain ⟨hp, g, d, tk, os⟩ := s; obtain ⟨h1, fin⟩ := hyp
    have sub0 := sub_enumerate
    have it1 : ∀ {A' : Around} {E : Value → Shared → Prop} {Q : Value → Shared → Prop}, Q (.ref hp.objs.size) ⟨hp.push o, g, d, tk, os⟩ → wpAny (model prog w) A' (pyIter v) Q E ⟨hp, g, d, tk, os⟩ := fun q => B.iter prog w _ _ ⟨hp, g, d, tk, os⟩ _ h1 q
    wp_walk using it1
    refine wpAny_stack_any fun st => wpAny_pure ?_; split
    · rename_i c _ _ _ _ _
      cases (c == Value.type "enumerate") <;> (wp_walk using it1; exact ⟨_, rfl, fin⟩)
    · wp_walk using it1
      exact ⟨_, rfl, fin⟩
section
variable {prog : Program} {w : World} {A : Around} {E : Value → Shared → Prop} {s : Shared}
theorem ecall {v : Value} {o : Obj} {H : Heap → Prop} {Q : Value → Shared → Prop} (B : Begins v o H) (h1 : H s.heap)
    (h : ∀ h', IsEnum h' (s.heap.objs.size + 1) s.heap.objs.size 0 .none → h'.get? s.heap.objs.size = some o → (∀ b o, s.heap.get? b = some o → h'.get? b = some o) → Q (.ref (s.heap.objs.size + 1)) { s with heap := h' }) : wpAny (model prog w) A (call (.type "enumerate") [v]) Q E s := by
  refine callType_new F.called_enumerate (by decide) (F.typeCall_enumerate_1 _) (F.newCall_enumerate_1 _) (fun obj => F.args_object_init_2 obj _) F.entry_enumerate_new (meets1 B) ⟨h1, ?_⟩
  have sz : (s.heap.push o).objs.size = s.heap.objs.size + 1 := Heap.size_push ..
  show _ ∧ _
  rw [sz]
  have p1 := Heap.get?_push_size (s.heap.push o) (o := { cls := .type "enumerate", data := .fields #[.none, .bool false, .ref s.heap.objs.size, rawInt 0, .none, .none] }) rfl
  rw [sz] at p1
  exact ⟨⟨_, p1, rfl⟩, h _ p1 (Heap.get?_push_of_some _ (Heap.get?_push_size _ B.free)) fun b o x => Heap.get?_push_of_some _ (Heap.get?_push_of_some _ x)⟩
end
open PySem.Spec PyProof.Rows L2
/-- the tuple at a as it stands at each turn, each item in a new pair -/
def ItE (K : PySem.W.Frag) (a : Addr) : It :=
  ⟨fun i H => ∃ (xs : List V) (x : V), SqT K H a xs ∧ xs[i]? = some x, fun i H v H' => ∃ T x, v = .ref T ∧ H T = none ∧ H' = upd H T (.tup [.int (i : Nat), x]) ∧ ∀ xs, SqT K H a xs → xs[i]? = some x, fun i H => ∃ xs : List V, SqT K H a xs ∧ xs.length ≤ i⟩
def ESt (e it a : Addr) (i : Nat) (h : Heap) : Prop := (∃ old, IsEnum h e it ((i : Nat) : Int) old) ∧ h.IsTupleIter it a i ∧ e ≠ it ∧ a ≠ it ∧ a ≠ e
theorem turn {P : Program} {w : World} {K : PySem.W.Frag} {elts : List Expr} {kk : Nat} {tpos : Pos} (a e it : Addr) : Turn P w K (.Tuple elts kk tpos) (ItE K a) [e, it] e (ESt e it a) where
  mem := by simp
  obj := fun i h ⟨⟨old, he⟩, ⟨o, ho, hc, hd⟩, _⟩ b hb => by
    rcases (show b = e ∨ b = it by simpa using hb) with z | z <;> rw [z]
    · exact ⟨_, he, fun v q => nomatch q⟩
    · exact ⟨o, ho, fun v q => by rw [hd] at q; cases q⟩
  keep := fun i h h' ⟨⟨old, he⟩, hi, r⟩ k => ⟨⟨old, k e (by simp) _ he⟩, hi.at fun o q => k it (by simp) o q, r⟩
  item := by
    intro X hP hw hK hc i pins s σ H E I hf st hg; subst hP hw hK
    obtain ⟨⟨⟨old, he⟩, hit, hne, ha, hae⟩, ⟨xs, x, hq, hx⟩⟩ := And.intro st hg
    obtain ⟨its, rv, p, _⟩ := I.tuple hq
    obtain ⟨u, hu, ru⟩ := rv.get hx
    have el : e < s.heap.objs.size := Heap.lt_size he
    have il : it < s.heap.objs.size := by obtain ⟨_, q, _⟩ := hit; exact Heap.lt_size q
    have hh : X.A.in1.handled = none := I.ok.hd hc
    refine wpAny_pyNext_enum_itemD (Draws.tuple hh it a ha its.toArray) he ⟨hit, p⟩ (by have := (List.getElem?_eq_some_iff.mp hu).1; simpa using this) hne (by simp; exact ⟨hne, fun z => hae z.symm⟩) fun u' h' tk hu' ho st' hT hsz hk => ?_
    have eu : u' = u := by
      have q : its.toArray[i]? = some u' := hu'
      simp at q; rw [hu] at q; exact (Option.some.inj q).symm
    subst eu
    refine ⟨_, rfl, wpAny_letOwnedTupleGo_enum (s := { s with heap := h', toks := tk + 1 }) ho fun h'' he' sb => ?_⟩
    have hT2 : h''.get? s.heap.objs.size = some { cls := .type "tuple", data := .seq #[.int i tk, u'] } := (sb.2 _ (Nat.ne_of_gt el)).trans hT
    have new : ObjOk X.prog X.w (upd H s.heap.objs.size (.tup [.int (i : Nat), x])) h'' s.heap.objs.size (.tup [.int (i : Nat), x]) := ⟨by show 2 ≤ sizeLine; decide, [.int i tk, u'], .cons ⟨_, rfl⟩ (.cons ru .nil), ⟨_, hT2, rfl, _, rfl⟩⟩
    have I1 : Inv X pins σ (upd H s.heap.objs.size (.tup [.int (i : Nat), x])) { s with heap := h'', toks := tk + 1 } := I.turnedNew (ch := [e, it]) (fun b ob hb q => (sb.2 b (fun z => hb (by simp [z]))).trans (hk b ob (fun z => hb (by simp [z])) (fun z => hb (by simp [z])) q)) hf (Nat.le_refl _) new
    refine ⟨.ref s.heap.objs.size, _, I1, rfl, ⟨_, x, rfl, I.hok.fresh (Nat.le_refl _), rfl, fun ys hy => by rw [I.tuple_inj hy hq]; exact hx⟩, ⟨⟨u', ?_⟩, st'.1.at fun o q => (sb.2 it (Ne.symm hne)).trans q, hne, ha, hae⟩, fun b hb => ?_⟩
    · have e1 : ((i + 1 : Nat) : Int) = (i : Int) + 1 := by omega
      rw [e1]; exact he'
    · have old : b < s.heap.objs.size := by rcases (show b = e ∨ b = it by simpa using hb) with z | z <;> rw [z] <;> assumption
      rw [upd_ne (Nat.ne_of_lt old)]; exact (hf b hb).1
  done := by
    intro X hP hw hK hc i pins s σ H E I hf st hg; subst hP hw hK
    obtain ⟨⟨⟨old, he⟩, hit, hne, ha, hae⟩, ⟨xs, hq, hx⟩⟩ := And.intro st hg
    obtain ⟨its, rv, p, _⟩ := I.tuple hq
    obtain ⟨f0, f1, f2, f3, f4, f5⟩ := hf it (by simp)
    have hl := rv.length
    have hh : X.A.in1.handled = none := I.ok.hd hc
    -- the iterator stands at or behind the end
    refine wpAny_pyNext_enum_endD (n := i) (fp := [it, a]) (P := fun _ _ => False) (St := fun j h => h.IsTupleIter it a i ∧ h.IsTuple a its.toArray ∧ j = i) ⟨fun _ _ st => let ⟨o, ho, _⟩ := st.1; ⟨o, ho⟩, fun _ _ _ st hk => ⟨st.1.at fun o e => hk it (by simp) o e, st.2.1.at fun o e => hk a (by simp) o e, st.2.2⟩, fun j s Q E hj st hQ => absurd hj (by have := st.2.2; omega), fun s Q E st hE => nextOf_tuple_end hh st.1 st.2.1 (by simp; omega) hE⟩ he ⟨hit, p, rfl⟩ fun h' eb => ⟨rfl, I.turned (t' := s.toks) (fun b o hb q => eb b o hb q) f0 f1 f3 f4 f5⟩
  self := fun A i s Q E ⟨⟨_, he⟩, _⟩ h => wpAny_pyIter_enum he h
def iE (K : PySem.W.Frag) (ta : TA) : TI := fun σ H R => ta σ H fun vs H1 => ∃ a xs, vs = [.ref a] ∧ SqT K H1 a xs ∧ R (ItE K a) H1
theorem pi_e {X : Cx} {e : Expr} {ta : TA} {p pos tpos : Pos} {elts : List Expr} {kk : Nat} (hg : Gl X "enumerate") (hm : X.mg "enumerate" = none) (ha : PA X [e] ta) (hs : starEach [e] X.env = [(false, eval e X.env)] := by rfl) : PI X (.Tuple elts kk tpos) (.Call (.Name "enumerate" p) [e] [] pos) (iE X.K ta) := by
  refine ⟨fun pins s σ H R I h => Call_ (ld_blt I hg hm boot_enumerate (PyProof.Rows.callWith_type1 (thn (ha.run pos pins s σ H _ I h) fun us s1 ⟨vs, H1, I1, r1, q1⟩ => ?_) hs rfl))⟩
  obtain ⟨a, xs, rfl, hq, q⟩ := q1
  cases r1 with
  | cons r rr =>
    cases rr; cases r
    obtain ⟨its, rv, p', _⟩ := I1.tuple hq
    obtain ⟨oa, hoa, _⟩ := id p'
    have al : a < s1.heap.objs.size := Heap.lt_size hoa
    refine ecall (begins_tuple a its.toArray) p' fun h' he hit hk => wpAny_pyIter_enum he ?_
    refine ⟨s1.heap.objs.size + 1, [s1.heap.objs.size + 1, s1.heap.objs.size], _, _, H1, rfl, I1.kept (t' := s1.toks) hk, turn a (s1.heap.objs.size + 1) s1.heap.objs.size, ⟨⟨.none, he⟩, ⟨_, hit, rfl, rfl⟩, Nat.succ_ne_self _, Nat.ne_of_lt al, Nat.ne_of_lt (Nat.lt_succ_of_lt al)⟩, fun b hb => ?_, q⟩
    have hle : s1.heap.objs.size ≤ b := by
      rcases (show b = s1.heap.objs.size + 1 ∨ b = s1.heap.objs.size by simpa using hb) with z | z <;> rw [z]
      · exact Nat.le_add_right _ _
      · exact Nat.le_refl _
    exact I1.fpOk hle (I1.hok.fresh hle)
end EN
namespace AX
open PySem PySem.Spec PyProof.Rows L2 Evl
/-! ## zip(t, u, strict=True) and enumerate(t) over known tuples -/
theorem lc_pairs {K : PySem.W.Frag} {a b : Addr} {xs ys : List V} {g : TG} {tt : TT} {te : TE} {vs : List Nat} {σ : L2.St} {H1 : Hp} {D : Addr} {Qd : Hp → Prop} (hl : xs.length = ys.length) (Pv : Nat → Hp → Prop) (h0 : Pv 0 (upd H1 D (.lst []))) (hq : ∀ i H, Pv i H → SqT K H a xs ∧ SqT K H b ys)
    (hs : ∀ i x y T H, xs[i]? = some x → ys[i]? = some y → Pv i H → H T = none → g (.ref T) (wipe σ vs) (upd H T (.tup [x, y])) fun σ2 H2 => wipe σ2 vs = wipe σ vs ∧ tt σ2 H2 fun b H3 =>
      if b = true then te σ2 H3 fun y H4 => ∃ acc, H4 D = some (.lst acc) ∧ acc.length < sizeLine ∧ Pv (i + 1) (upd H4 D (.lst (acc ++ [y]))) else Pv (i + 1) H3) (hd : ∀ H, Pv xs.length H → Qd H) :
    ∃ W : Nat → Nat → Hp → Prop, (∃ m, W 0 m (upd H1 D (.lst []))) ∧ ∀ i m H, W i m H →
      ((ZS.ItZ K a b).stop i H ∧ Qd H) ∨ ((ZS.ItZ K a b).go i H ∧ ∃ Nx : Hp → Prop, (∀ H', Nx H' → ∃ m', m' < m ∧ W (i + 1) m' H') ∧ ∀ x H', (ZS.ItZ K a b).yld i H x H' → g x (wipe σ vs) H' fun σ2 H2 => wipe σ2 vs = wipe σ vs ∧ tt σ2 H2 fun b H3 =>
        if b = true then te σ2 H3 fun y H4 => ∃ acc, H4 D = some (.lst acc) ∧ acc.length < sizeLine ∧ Nx (upd H4 D (.lst (acc ++ [y]))) else Nx H3) := by
  refine ⟨fun i m H => m = xs.length - i ∧ i ≤ xs.length ∧ Pv i H, ⟨xs.length, by simp, Nat.zero_le _, h0⟩, ?_⟩
  rintro i m H ⟨rfl, hi, p⟩
  obtain ⟨q1, q2⟩ := hq i H p
  by_cases lt : i < xs.length
  · have x1 : xs[i]? = some xs[i] := List.getElem?_eq_getElem lt
    have x2 : ys[i]? = some (ys[i]'(by omega)) := List.getElem?_eq_getElem (by omega)
    refine .inr ⟨⟨xs, ys, _, _, q1, q2, x1, x2⟩, Pv (i + 1), fun H' p' => ⟨xs.length - (i + 1), by omega, rfl, lt, p'⟩, fun x H' ⟨T, x', y', e1, hT, e2, f1, f2⟩ => ?_⟩
    subst e1 e2
    exact hs i x' y' T H (f1 xs q1) (f2 ys q2) p hT
  · obtain rfl : i = xs.length := by omega
    exact .inl ⟨⟨xs, ys, q1, q2, Nat.le_refl _, by omega⟩, hd H p⟩
theorem for_enumT {K : PySem.W.Frag} {a : Addr} {xs : List V} {g : TG} {tb : TS} {D : Ends} {σ : L2.St} {H : Hp} (Pv : Nat → L2.St → Hp → Prop) (h0 : Pv 0 σ H) (hq : ∀ i σ H, Pv i σ H → SqT K H a xs)
    (hs : ∀ (i : Nat) (x : V) (T : Addr) (σ : L2.St) (H : Hp), xs[i]? = some x → Pv i σ H → H T = none → g (.ref T) σ (upd H T (.tup [.int (i : Nat), x])) fun σ2 H2 => tb { D with nx := Pv (i + 1), ct := Pv (i + 1), bk := D.nx } σ2 H2) (hd : ∀ σ H, Pv xs.length σ H → D.nx σ H) :
    ∃ W : Nat → Nat → L2.St → Hp → Prop, (∃ m, W 0 m σ H) ∧ ∀ i m σ H, W i m σ H →
      ((EN.ItE K a).stop i H ∧ D.nx σ H) ∨ ((EN.ItE K a).go i H ∧ ∃ N : L2.St → Hp → Prop, (∀ σ' H', N σ' H' → ∃ m', m' < m ∧ W (i + 1) m' σ' H') ∧ ∀ v H', (EN.ItE K a).yld i H v H' → g v σ H' fun σ2 H2 => tb { D with nx := N, ct := N, bk := D.nx } σ2 H2) := by
  refine ⟨fun i m σ H => m = xs.length - i ∧ i ≤ xs.length ∧ Pv i σ H, ⟨xs.length, rfl, Nat.zero_le _, h0⟩, ?_⟩
  rintro i m σ H ⟨rfl, hi, p⟩
  have q1 := hq i σ H p
  by_cases lt : i < xs.length
  · refine .inr ⟨⟨xs, _, q1, List.getElem?_eq_getElem lt⟩, Pv (i + 1), fun σ' H' p' => ⟨xs.length - (i + 1), by omega, rfl, lt, p'⟩, fun v H' ⟨T, x', e1, hT, e2, f1⟩ => ?_⟩
    subst e1 e2
    exact hs i x' T σ H (f1 xs q1) p hT
  · obtain rfl : i = xs.length := by omega
    exact .inl ⟨⟨xs, q1, Nat.le_refl _⟩, hd σ H p⟩
section
variable {S : Sig} {G : Gh} {σ : L2.St} {B H : Hp} {δ : Sto}
theorem New.laid (R : Rst S G σ B H δ) {D T : Addr} {ds : List DV} {o : HO} (n : New S G σ B H δ (.ref D) (.lst ds)) (hT : H T = none) : New S G σ (upd B T o) (upd H T o) δ (.ref D) (.lst ds) := by
  obtain ⟨l, e, n1, n2, n3, n4⟩ := n
  have ne : l ≠ T := fun z => n1.ne (by rw [z]; exact hT)
  exact ⟨l, e, n1.mono (Ex.new (fresh_back R.ex hT)) (upd_ne ne), by rw [upd_ne ne]; exact n2, n3, n4⟩
end
section
variable {S : Sig} {X : Cx} {δ : Sto} {scope : Scope} {elt e e2 : Expr} {ts : List Expr} {ifs : List Expr} {pos p1 tpos kp cp p : Pos} {kk cj : Nat} {own : List (Str × Nat)} {kf : Sto → OV → Prop}
def prs (xs ys : List DV) : List DV := List.zipWith (fun a b => DV.tup [a, b]) xs ys
theorem prs_get {xs ys : List DV} {i : Nat} {x y : DV} (h1 : xs[i]? = some x) (h2 : ys[i]? = some y) : (prs xs ys)[i]? = some (.tup [x, y]) := by
  unfold prs; rw [List.getElem?_zipWith, h1, h2]
theorem lcZ (hst : starEach [e, e2] X.env = (false, eval e X.env) :: starEach [e2] X.env) (hst2 : starEach [e2] X.env = (false, eval e2 X.env) :: starEach [] X.env) (hK : X.K = S.K) (vs : List Nat)
    (h : AE S X e δ fun δ0 d1 => AE S X e2 δ0 fun δ1 d2 => ∃ xs ys, d1 = .tup xs ∧ d2 = .tup ys ∧ xs.length = ys.length ∧ Comp S X scope (.Tuple ts kk tpos) elt ifs vs (prs xs ys) δ1 kf) {G : Gh} {σ : L2.St} {B H : Hp} (R : Rst S G σ B H δ) :
    tLcW X scope (.Tuple ts kk tpos) elt ifs (ZS.iZ X.K (tCons (WE X e) (tCons (WE X e2) tNil))) vs σ H (LcQ S G σ B kf) := by
  refine (h G σ B H R).imp fun v H1 ⟨B1, δ1, d, e1, R1, r1, h1⟩ => (h1 G σ B1 H1 R1).imp fun w H2 ⟨B2, δ2, d2, e3, R2, r2, xs, ys, hd, hd2, hl, hz, no, I, i0, hb, hk⟩ => ?_
  subst hd hd2
  obtain ⟨a, us, rfl, hx, hr⟩ := (r1.mono e3).tup_inv
  obtain ⟨b, ws, rfl, hy, hs⟩ := r2.tup_inv
  refine ⟨a, b, us, ws, rfl, by rw [hK]; exact ex_t R2.ex hx, by rw [hK]; exact ex_t R2.ex hy, fun D hD => ?_⟩
  have hl2 : us.length = ws.length := by rw [hr.length, hs.length, hl]
  refine lc_pairs (K := X.K) (a := a) (b := b) (xs := us) (ys := ws) hl2 (LcP S G σ B2 vs I D) (comp_start R2 hD i0) (fun i H ⟨B3, δ3, acc, R3, _⟩ => ⟨by rw [hK]; exact ex_t R3.ex (ex_t R3.exB hx), by rw [hK]; exact ex_t R3.ex (ex_t R3.exB hy)⟩) (fun i x y T H' hi hj ⟨B3, δ3, acc, R3, n3, hl3, hI⟩ hT => ?_) fun H' hp => ?_
  · obtain ⟨x', hx', rx⟩ := hr.get' hi
    obtain ⟨y', hy', ry⟩ := hs.get' hj
    have bT := fresh_back R3.ex hT
    exact comp_turn hz hb (prs_get hx' hy') ⟨upd B3 T (.tup [x, y]), δ3, acc, R3.laid hT (fun _ z => by cases z), n3.laid R3 hT, hl3, hI, .tup (st_of upd_same) (.cons ((rx.mono R3.exB).mono (Ex.new bT)) (.cons ((ry.mono R3.exB).mono (Ex.new bT)) .nil))⟩
  · have el : (prs xs ys).length = us.length := by unfold prs; rw [List.length_zipWith, hr.length, hl]; simp
    obtain ⟨B', δ', o, e2, q⟩ := comp_end R2 no hp (by rw [← el]; exact hk)
    exact ⟨B', δ', o, (e1.trans e3).trans e2, q⟩
variable (own)
theorem AF.lcZ (hc : X.calm = true) (hN : X.N.Nodup) (hK : X.K = S.K) (hm : X.mg "zip" = none) (ok : BlkOk X.N X.env.scope scope own) (h : AE S X e δ fun δ0 d1 => AE S X e2 δ0 fun δ1 d2 => ∃ xs ys, d1 = .tup xs ∧ d2 = .tup ys ∧ xs.length = ys.length ∧ Comp S X scope (.Tuple ts kk tpos) elt ifs (own.map (·.2)) (prs xs ys) δ1 kf) (hg : Gl X "zip" := by rfl)
    (hst : starEach [e, e2] X.env = (false, eval e X.env) :: starEach [e2] X.env := by rfl) (hst2 : starEach [e2] X.env = (false, eval e2 X.env) :: starEach [] X.env := by rfl) (hpl : (backTo p1 (starEach [e, e2] X.env)).any (·.1) = false := by rfl)
    (hs : ∀ x, foldedSetIterable (.Call (.Name "zip" p) [e, e2] [⟨some (Str.ofString "strict"), .Constant (.bool true) cj cp, kp⟩] p1) X.env x = pure x := by intro _; rfl) : AF S X (.ListComp elt [⟨.Tuple ts kk tpos, .Call (.Name "zip" p) [e, e2] [⟨some (Str.ofString "strict"), .Constant (.bool true) cj cp, kp⟩] p1, ifs, 0⟩] scope pos) δ kf := fun G σ B H R =>
  WE.of (pe_lc hc hN (ZS.pi_z hg hm (pa_cons (pw_e e) (pa_cons (pw_e e2) pa_nil hst2) hst) hst hpl) ok hg_b ht_b he_b hs) (AX.lcZ hst hst2 hK _ h R)
end
/-! ### for i, x in enumerate(t) -/
def enm (xs : List DV) : List DV := xs.zipIdx.map fun q => DV.tup [.int (q.2 : Nat), q.1]
theorem enm_get {xs : List DV} {i : Nat} {x : DV} (h : xs[i]? = some x) : (enm xs)[i]? = some (.tup [.int (i : Nat), x]) := by
  unfold enm; rw [List.getElem?_map, List.getElem?_zipIdx, h] <;> simp
theorem enm_len (xs : List DV) : (enm xs).length = xs.length := by unfold enm; simp
section
variable {S : Sig} {X : Cx} {δ : Sto} {e : Expr} {ts : List Expr} {body : List Stmt} {pos p1 p tpos : Pos} {kk : Nat} {D : AEnds}
theorem DoS.forE (hc : X.calm = true) (hK : X.K = S.K) (hp : PassesOwn (model X.prog X.w) X.A X.env X.xe) (hm : X.mg "enumerate" = none) (hi : AE S X e δ fun δ1 d => ∃ ds, d = .tup ds ∧ Loop S X (.Tuple ts kk tpos) body D (enm ds) δ1)
    (hg : Gl X "enumerate" := by rfl) (hst : starEach [e] X.env = [(false, eval e X.env)] := by rfl) (hs : ∀ x, foldedSetIterable (.Call (.Name "enumerate" p) [e] [] p1) X.env x = pure x := by intro _; rfl) : DoS S X (.For (.Tuple ts kk tpos) (.Call (.Name "enumerate" p) [e] [] p1) body [] pos) δ D := fun G σ B H R =>
  WS.of (ps_for hp hc (EN.pi_e hg hm (pa_cons (pw_e e) pa_nil hst) hst) (pw_g _) (pw_ss body) hs) ((hi G σ B H R).imp fun v H1 ⟨B1, δ1, d, e1, R1, r, ds, hd, Iv, i0, hb, hq⟩ => by
    subst hd
    obtain ⟨a, xs, rfl, hx, hr⟩ := r.tup_inv
    refine ⟨a, xs, rfl, by rw [hK]; exact ex_t R1.ex hx, ?_⟩
    refine for_enumT (K := X.K) (a := a) (xs := xs) (D := conc S G D) (fun i σ' H' => ∃ B2 δ2, Rst S ⟨B1, G.H0, G.L0⟩ σ' B2 H' δ2 ∧ Iv i δ2) ⟨B1, δ1, R1.rebase, i0⟩ (fun i σ' H' ⟨B2, δ2, R2, _⟩ => by rw [hK]; exact ex_t R2.ex (ex_t R2.exB hx)) (fun i x T σ' H' hi ⟨B2, δ2, R2, hI⟩ hT => ?_) ?_
    · obtain ⟨y, hy, ry⟩ := hr.get' hi
      have bT := fresh_back R2.ex hT
      exact loop_turn R1 hb i _ _ σ' _ (enm_get hy) ⟨upd B2 T (.tup [.int (i : Nat), x]), δ2, R2.laid hT (fun _ z => by cases z), hI, .tup (st_of upd_same) (.cons (.int _) (.cons ((ry.mono R2.exB).mono (Ex.new bT)) .nil))⟩
    · rintro σ' H' ⟨B2, δ2, R2, hI⟩
      exact ⟨B2, δ2, R1.unbase R2, hq δ2 (by rw [enm_len, ← hr.length]; exact hI)⟩)
end
end AX
/-! sorted(xs, key=f), f a def whose answers are whole numbers: its calls keep the frame, not every slot -/
namespace SK
open PySem PySem.Spec PyProof.Rows L2
open PySem.W (KeepsBut EachIs dataLe KeyedOut)
section
variable {X : Cx} {pins : List (Addr × Obj)} {σ : L2.St} {H : Hp} {s : Shared} {h' : Heap}
/-- records of ours turned, one of them tracked from now on -/
theorem adopt {t' : Nat} {ch : List Addr} {T : Addr} {ob : HO} (I : Inv X pins σ H s) (k : ∀ b o, b ∉ ch → s.heap.get? b = some o → h'.get? b = some o) (hf : ∀ b ∈ ch, FpOk X pins H b) (hT : T ∈ ch) (new : ObjOk X.prog X.w (upd H T ob) h' T ob) : Inv X pins σ (upd H T ob) { s with heap := h', toks := t' } := by
  have hn : H T = none := (hf T hT).1
  have nit : ∀ b u, H b = some u → b ∉ ch := fun b u e z => by
    have q := (hf b z).1; rw [q] at e; cases e
  refine I.step (g' := s.gens) (d' := s.drawn) (ch := ch) (fun b hb => ?_) (fun b o _ _ hc e _ => k b o hc e) (fun b o _ _ hc e _ => ⟨o.slots, k b o hc e⟩) (fun b o hc e n => ?_) (fun b o hc e => ⟨o, k b o hc e⟩) (fun b xs e => ?_) (fun b o u e => ?_) (fun b ps e => ⟨#[], ?_⟩) (fun m hm => ?_) (fun b u e => ?_) I.bare
  · obtain ⟨_, q1, _, q2, q3, q4⟩ := hf b hb; exact ⟨q2, q1, q3, q4⟩
  · rw [upd_ne (fun z => hc (by rw [z]; exact hT))]; exact n
  · rw [upd_ne (ne_of_none e hn)]; exact e
  · rw [upd_ne (ne_of_none e hn)]; exact e
  · rw [upd_ne (ne_of_none e hn), e]; simp
  · obtain ⟨o, es, ep, ho, r⟩ := hm; exact ⟨o, es, ep, k _ o (fun z => (hf _ z).2.1 rfl) ho, r⟩
  · by_cases hb : b = T
    · subst hb; rw [upd_same] at e; cases e; exact new
    · rw [upd_ne hb] at e
      refine (I.hok b u e).stay (fun c v hc q => k c v ?_ q) (fun c q => by rw [upd_ne (ne_of_none q hn)]; exact q) fun c xs q => by rw [upd_ne (ne_of_none q hn)]; exact q
      rcases hc with z | z
      · rw [z]; exact nit b u e
      · exact nit c _ z
end
section
variable {X : Cx} {pins : List (Addr × Obj)} {σ : L2.St} {H : Hp} {s : Shared} {kS a : Addr} {e e1 : Nat} {kA : Array Value}
/-- the two lists of a sort that waits for a key -/
abbrev two (kS a : Addr) (kA : Array Value) (e e1 : Nat) : List (Addr × Obj) := [(kS, seqObj "list" kA e), (a, seqObj "list" #[] e1)]
theorem fp_two (I : Inv X (pins ++ two kS a kA e e1) σ H s) (h1 : ∀ b ∈ [kS, a], (b ∈ X.ex ∨ X.s_0.heap.objs.size ≤ b) ∧ (∀ x c, X.env.cells.lookup x = some c → c ≠ b) ∧ ∀ p ∈ X.pn ++ pins, p.1 ≠ b) : ∀ b ∈ [kS, a], FpOk X pins H b := fun b hb => by
  have hp : ∃ o, (b, o) ∈ X.pn ++ (pins ++ two kS a kA e e1) := by
    rcases (show b = kS ∨ b = a by simpa using hb) with rfl | rfl <;> exact ⟨_, by simp; first | exact .inr (.inr (.inl rfl)) | exact .inr (.inr (.inr rfl))⟩
  obtain ⟨o, hp⟩ := hp
  obtain ⟨_, q2, q3, q4, _⟩ := I.pin _ hp
  obtain ⟨r1, r2, r3⟩ := h1 b hb
  exact ⟨q2, q3, q4, r1, r2, r3⟩
end
theorem ints_reads {h : Heap} : ∀ {vs : List Value} {ns : List Int}, IntsAre vs ns → EachIs (fun v d => ∃ as, Reads h v d as) vs (ns.map PyData.int)
  | [], [], .nil => .nil
  | _ :: _, _ :: _, .cons n t r => .cons ⟨[], .int n t⟩ (ints_reads r)
/-- what sorted by keys gives -/
def SortedBy {β : Type} (ks : List Int) (xs ys : List β) : Prop := ∃ ps : List (Int × β), ps.Perm (ks.zip xs) ∧ ps.Pairwise (fun p q => p.1 ≤ q.1) ∧ ys = ps.map (·.2)
theorem each_vals {vs : List V} {us : List Value} : ∀ {ks : List Int}, ks.length = us.length → Vals vs us → EachIs (fun (u : Value) (p : Int × V) => RelV p.2 u) us (ks.zip vs) := by
  intro ks hl h
  induction h generalizing ks with
  | nil => cases ks with
    | nil => exact .nil
    | cons => simp at hl
  | cons r rr ih => cases ks with
    | nil => simp at hl
    | cons k ks => exact .cons r (ih (by simpa using hl))
theorem vals_each : ∀ {ps : List (Int × V)} {us : List Value}, EachIs (fun (u : Value) (p : Int × V) => RelV p.2 u) us ps → Vals (ps.map (·.2)) us
  | [], [], .nil => .nil
  | _ :: _, _ :: _, .cons r t => .cons r (vals_each t)
theorem sort_run {X : Cx} {pins : List (Addr × Obj)} {σ : L2.St} {H : Hp} {s : Shared} {l : Addr} {xs : List V} {its : List Value} {f : Addr} {kz : List Int} {Q : VK} (R : Hp → Prop) (hc : X.calm = true) (hu : X.A.units + 10 < cLine) (I : Inv X pins σ H s) (hl : s.heap.IsList l its.toArray) (hv : Vals xs its) (hlen : kz.length = its.length) (hZ : its.length ≤ sizeLine) (h0 : R H)
    (turn : ∀ (i : Nat) (v : V) (u : Value) (n : Int), xs[i]? = some v → RelV v u → kz[i]? = some n → ∀ (pins' : List (Addr × Obj)) (s' : Shared) (Hc : Hp), Inv X pins' σ Hc s' → R Hc → wpAny (model X.prog X.w) X.A.in1.in1 (call (.ref f) [u]) (fun v s'' => ∃ t Hc', v = .int n t ∧ Inv X pins' σ Hc' s'' ∧ R Hc') (fun _ _ => False) s')
    (fin : ∀ (ys : List V) (Hc : Hp) (p : Addr), SortedBy kz xs ys → R Hc → Hc p = none → Q (.ref p) (upd Hc p (.lst ys))) :
    wpAny (model X.prog X.w) X.A (call (.builtin "sorted") [.ref l] [(Str.ofString "key", .ref f)]) (EP X pins σ Q) X.xe s := by
  have oldC : ∀ {b o}, s.heap.get? b = some o → (PySem.W.copyHeap s.heap its).get? b = some o := fun e => PySem.W.copyHeap_old e
  refine PySem.W.sorted_of_sort hl hZ (ksk_s1 _ _) (fun x => ksk_l1 (.ref x) _) fun E' => ?_
  rw [ksk_t1]
  generalize ea : s.heap.objs.size + 1 = a
  have hac : (PySem.W.copyHeap s.heap its).get? a = some (seqObj "list" its.toArray 0) := by rw [← ea]; exact PySem.W.copyHeap_at s.heap its
  have hsa : s.heap.objs.size ≤ a := by rw [← ea]; exact Nat.le_succ _
  unfold ksk_tree
  refine wpAny_bind (listItems_at hac rfl (wpAny_bind (listUpdate_at hac rfl ?_ (by rw [List.size_toArray]; exact hZ) (Nat.zero_le _))))
  obtain ⟨e1, ho1⟩ : ∃ e1, ((PySem.W.copyHeap s.heap its).update a (Obj.mapSeq fun _ => (#[] : Array Value))).get? a = some (seqObj "list" #[] e1) := ⟨_, get?_update_seq hac fun _ => #[]⟩
  refine wpAny_bind (seqEpoch_at ho1 rfl (wpAny_bind (wpAny_newTuple ?_ (by show its.length ≤ _; exact hZ))))
  refine wpAny_bind (wpAny_newList ?_ (Nat.zero_le _)); refine wpAny_holding ?_
  generalize ek : (((PySem.W.copyHeap s.heap its).update a (Obj.mapSeq fun _ => (#[] : Array Value))).push (seqObj "tuple" its.toArray 0)).objs.size = kS
  have hsk : a < kS := by rw [← ek, size_push', Heap.size_update]; exact Nat.lt_succ_of_lt (Heap.lt_size hac)
  have hka : kS ≠ a := Nat.ne_of_gt hsk
  generalize hh1 : (((PySem.W.copyHeap s.heap its).update a (Obj.mapSeq fun _ => (#[] : Array Value))).push (seqObj "tuple" its.toArray 0)).push (seqObj "list" #[] 0) = h1
  have nk1 : h1.get? kS = some (seqObj "list" #[] 0) := by rw [← hh1, ← ek]; exact Heap.get?_push_size _ rfl
  have na1 : h1.get? a = some (seqObj "list" #[] e1) := by rw [← hh1]; exact Heap.get?_push_of_some _ (Heap.get?_push_of_some _ ho1)
  have up1 : ∀ b o, s.heap.get? b = some o → h1.get? b = some o := fun b o q => by
    have nb : b ≠ a := Nat.ne_of_lt (Nat.lt_of_lt_of_le (Heap.lt_size q) hsa)
    rw [← hh1]; exact Heap.get?_push_of_some _ (Heap.get?_push_of_some _ ((Heap.get?_update_ne _ _ _ _ nb).trans (oldC q)))
  have I1 : Inv X pins σ H { s with heap := h1 } := I.kept (t' := s.toks) up1
  have fp0 : ∀ b ∈ [kS, a], FpOk X pins H b := fun b hb => by
    have hb : s.heap.objs.size ≤ b := by
      rcases (show b = kS ∨ b = a by simpa using hb) with rfl | rfl
      · exact Nat.le_of_lt (Nat.lt_of_le_of_lt hsa hsk)
      · exact hsa
    exact I.fpOk hb (I.hok.fresh hb)
  have stat : ∀ b ∈ [kS, a], (b ∈ X.ex ∨ X.s_0.heap.objs.size ≤ b) ∧ (∀ x c, X.env.cells.lookup x = some c → c ≠ b) ∧ ∀ p ∈ X.pn ++ pins, p.1 ≠ b := fun b hb => by
    obtain ⟨_, _, _, q3, q4, q5⟩ := fp0 b hb; exact ⟨q3, q4, q5⟩
  have pinned : ∀ {Hc : Hp} {s' : Shared} {kA : Array Value} {e : Nat}, Inv X pins σ Hc s' → (∀ b ∈ [kS, a], FpOk X pins Hc b) → s'.heap.get? kS = some (seqObj "list" kA e) → s'.heap.get? a = some (seqObj "list" #[] e1) → Inv X (pins ++ two kS a kA e e1) σ Hc s' := fun {Hc s' kA e} I' fp g1 g2 => I'.pins_of fun p hp => by
    rcases List.mem_append.mp hp with z | z
    · exact I'.pin p (List.mem_append_right _ z)
    · rcases (show p = _ ∨ p = _ by simpa using z) with rfl | rfl
      · obtain ⟨q1, q2, q3, _⟩ := fp kS (by simp); exact ⟨g1, q1, q2, q3, fun v z => by cases z⟩
      · obtain ⟨q1, q2, q3, _⟩ := fp a (by simp); exact ⟨g2, q1, q2, q3, fun v z => by cases z⟩
  unfold ksk_rest
  refine wpAny_bind (wpAny_rule ?_)
  first
    | rw [List.forIn_toArray]
    | (rw [← Array.forIn_toList]; simp only [List.toList_toArray])
  refine wpAny_bind (ksk_fold (fun i s' => ∃ Hc kA e, Inv X (pins ++ two kS a kA e e1) σ Hc s' ∧ IntsAre kA.toList (kz.take i) ∧ R Hc) its 0 _ ⟨H, #[], 0, pinned I1 fp0 nk1 na1, by rw [List.take_zero]; exact .nil, h0⟩ ?_ ?_)
  · rintro j u s' hx ⟨Hc, kA, e, I2, hk, hR⟩
    rw [Nat.zero_add] at hk ⊢
    have hj : j < its.length := (List.getElem?_eq_some_iff.mp hx).1
    obtain ⟨n, hn⟩ : ∃ n, kz[j]? = some n := ⟨_, List.getElem?_eq_getElem (by omega)⟩
    obtain ⟨v, hvj⟩ : ∃ v, xs[j]? = some v := ⟨_, List.getElem?_eq_getElem (by rw [hv.length]; exact hj)⟩
    have rv : RelV v u := by
      obtain ⟨u', q1, q2⟩ := hv.get hvj
      rw [hx] at q1; cases q1; exact q2
    have hz : kA.size ≤ its.length := by
      have q : ∀ {vs : List Value} {ns : List Int}, IntsAre vs ns → vs.length = ns.length := by
        intro vs ns h
        induction h with
        | nil => rfl
        | cons n t _ ih => simp [ih]
      have := q hk; rw [Array.length_toList, List.length_take] at this; omega
    refine wpAny_bind (wpAny_attempt (wpAny_mono (turn j v u n hvj rv hn _ s' Hc I2 hR) (fun v' s'' ⟨t, Hc', ev, I3, hR'⟩ => ?_) fun _ _ hF => hF.elim))
    subst ev
    have nk3 : s''.heap.get? kS = some (seqObj "list" kA e) := (I3.pin (kS, seqObj "list" kA e) (by simp)).1
    have na3 : s''.heap.get? a = some (seqObj "list" #[] e1) := (I3.pin (a, seqObj "list" #[] e1) (by simp)).1
    have fp3 := fp_two I3 stat
    have up3 := Heap.SameBut.update s''.heap kS (Obj.mapSeq (·.push (Value.int n t)))
    obtain ⟨c2, hc2⟩ : ∃ c2, (s''.heap.update kS (Obj.mapSeq (·.push (Value.int n t)))).get? kS = some (seqObj "list" (kA.push (.int n t)) c2) := ⟨_, get?_update_seq nk3 (·.push (Value.int n t))⟩
    refine wpAny_bind (listUpdate_at nk3 rfl (wpAny_pure ⟨rfl, Hc', kA.push (.int n t), c2, ?_, ?_, hR'⟩) (Nat.le_trans hz hZ) (by rw [Array.size_push]; exact Nat.succ_le_succ (Nat.le_trans hz hZ)))
    · exact pinned (I3.unpinned.turnedL (t' := s''.toks) (ch := [kS]) (fun b o hb q => (up3.2 b (by simpa using hb)).trans q) fun b hb => fp3 b (by rw [List.mem_singleton.mp hb]; simp)) fp3 hc2 ((up3.2 a hka.symm).trans na3)
    · have e4 : kz.take (j + 1) = kz.take j ++ [n] := by rw [List.take_add_one, hn] <;> rfl
      rw [e4, Array.toList_push]; exact ksk_snoc hk
  · rintro s' ⟨Hc, kA, e, I2, hk, hR⟩
    rw [Nat.zero_add, ← hlen, List.take_length] at hk
    have nk2 : s'.heap.get? kS = some (seqObj "list" kA e) := (I2.pin (kS, seqObj "list" kA e) (by simp)).1
    have na2 : s'.heap.get? a = some (seqObj "list" #[] e1) := (I2.pin (a, seqObj "list" #[] e1) (by simp)).1
    have rd := ints_reads (h := s'.heap) hk
    have hsz : kA.size = its.length := by
      have := rd.length; rw [Array.length_toList, List.length_map] at this; omega
    have hal : PySem.W.AllAlike (kz.map PyData.int) := fun d hd d' hd' => by
      obtain ⟨n, _, rfl⟩ := List.mem_map.mp hd; obtain ⟨m, _, rfl⟩ := List.mem_map.mp hd'; rfl
    have hso : PySem.W.Sortable (kz.map PyData.int) := .inr fun d hd => by
      obtain ⟨n, _, rfl⟩ := List.mem_map.mp hd; exact ⟨(fun z => nomatch z), fun xs z => nomatch z⟩
    have hdp : ∀ d, d ∈ kz.map PyData.int → X.A.in1.in1.units + d.depth < cLine := fun d hd => by
      obtain ⟨n, _, rfl⟩ := List.mem_map.mp hd
      have : X.A.in1.in1.units = X.A.units + 2 := rfl
      have d0 : (PyData.int n).depth ≤ 1 := by simp [PyData.depth]
      omega
    refine wpAny_bind (listItems_at nk2 rfl ?_)
    refine PySem.W.keyH_end (kS := kS) (κ := PySem.W.dataKind s'.heap (kz.map PyData.int)) (h₁ := PySem.W.hideAll s'.heap [kS]) (fun b o _ q => PySem.W.of_hideAll _ q) (PySem.W.hideAll_none _ (by simp)) nk2 na2 hka (PySem.W.SortsAt.data rd hal hso hdp) hsz hZ fun h3 tk3 c k3 n3 => ⟨rfl, ?_⟩
    have ko : KeyedOut false (kz.map PyData.int) its (PySem.W.sortVals (PySem.W.dataKind s'.heap (kz.map PyData.int)) false kA.toList its) := ⟨s'.heap, kA.toList, hal, rfl, rd⟩
    generalize PySem.W.sortVals (PySem.W.dataKind s'.heap (kz.map PyData.int)) false kA.toList its = out at ko n3
    have ez : (kz.zip xs).map (fun p : Int × V => PyData.int p.1) = kz.map PyData.int := by
      have := congrArg (List.map PyData.int) (List.map_fst_zip (l₁ := kz) (l₂ := xs) (by rw [hlen, hv.length]; exact Nat.le_refl _))
      rw [List.map_map] at this; exact this
    rw [← ez] at ko
    have ev := PySem.W.keyedOut_each (fun p : Int × V => PyData.int p.1) ko (each_vals hlen hv)
    rw [PySem.W.dataLe_int] at ev
    have vals := vals_each ev
    have hperm := List.mergeSort_perm (kz.zip xs) fun a b : Int × V => decide (a.1 ≤ b.1)
    have hpw := List.pairwise_mergeSort (le := fun a b : Int × V => decide (a.1 ≤ b.1)) (fun a b c h1 h2 => by simp at *; omega) (fun a b => by simp; omega) (kz.zip xs)
    have hll : (((kz.zip xs).mergeSort fun a b : Int × V => decide (a.1 ≤ b.1)).map (·.2)).length ≤ sizeLine := by
      rw [List.length_map, hperm.length_eq, List.length_zip]; omega
    have I4 := adopt (t' := tk3) (h' := h3) (T := a) (ob := .lst (((kz.zip xs).mergeSort fun a b : Int × V => decide (a.1 ≤ b.1)).map (·.2))) I2.unpinned (fun b o hb q => k3 b o (fun z => hb (by simp [z])) (PySem.W.hideAll_get _ q (by intro z; rw [List.mem_singleton.mp z] at hb; exact hb (by simp)))) (fp_two I2 stat) (by simp) ⟨hll, out, c, vals, n3⟩
    exact ⟨.ref a, _, I4, rfl, fin _ Hc a ⟨_, hperm, hpw.imp fun h => by simpa using h, rfl⟩ hR (fp_two I2 stat a (by simp)).1⟩
end SK
namespace AX
open PySem PySem.Spec PyProof.Rows L2 Evl
/-! ## sorted(xs, key=f), f a def of one parameter whose answers are whole numbers -/
theorem paired_perm {α β : Type} {F : α → β → Prop} {xs ys : List α} (h : ys.Perm xs) : ∀ {ds : List β}, Paired F xs ds → ∃ es, es.Perm ds ∧ Paired F ys es := by
  induction h with
  | nil => intro ds p; cases p; exact ⟨[], .nil, .nil⟩
  | cons x h ih =>
    intro ds p
    cases p with
    | cons r t => obtain ⟨es, a, b⟩ := ih t; exact ⟨_ :: es, a.cons _, .cons r b⟩
  | swap x y l =>
    intro ds p
    cases p with
    | cons r t => cases t with
      | cons r2 t => exact ⟨_ :: _ :: _, .swap _ _ _, .cons r2 (.cons r t)⟩
  | trans _ _ ih1 ih2 =>
    intro ds p
    obtain ⟨es, a, b⟩ := ih2 p
    obtain ⟨es2, c, d⟩ := ih1 b
    exact ⟨es2, c.trans a, d⟩
section
variable {S : Sig} {B : Hp}
theorem zip_rep : ∀ {ks : List Int} {vs : List V} {ds : List DV}, RepL S B vs ds → Paired (fun (p : Int × V) (q : Int × DV) => p.1 = q.1 ∧ Rep S B p.2 q.2) (ks.zip vs) (ks.zip ds)
  | [], _, _, _ => .nil
  | _ :: _, _, _, .nil => .nil
  | _ :: _, _, _, .cons r t => .cons ⟨rfl, r⟩ (zip_rep t)
theorem rep_zip : ∀ {ps : List (Int × V)} {qs : List (Int × DV)}, Paired (fun (p : Int × V) (q : Int × DV) => p.1 = q.1 ∧ Rep S B p.2 q.2) ps qs → RepL S B (ps.map (·.2)) (qs.map (·.2)) ∧ ps.map (·.1) = qs.map (·.1)
  | [], [], .nil => ⟨.nil, rfl⟩
  | _ :: _, _ :: _, .cons r t => by
    obtain ⟨a, b⟩ := rep_zip t
    exact ⟨.cons r.2 a, by rw [List.map_cons, List.map_cons, r.1, b]⟩
theorem sorted_rep {ks : List Int} {vs ys : List V} {ds : List DV} (h : SK.SortedBy ks vs ys) (r : RepL S B vs ds) : ∃ es, SK.SortedBy ks ds es ∧ RepL S B ys es := by
  obtain ⟨ps, h1, h2, rfl⟩ := h
  obtain ⟨qs, q1, q2⟩ := paired_perm h1 (zip_rep (ks := ks) r)
  obtain ⟨q3, q4⟩ := rep_zip q2
  refine ⟨_, ⟨qs, q1, ?_, rfl⟩, q3⟩
  have : (ps.map (·.1)).Pairwise (· ≤ ·) := List.pairwise_map.mpr h2
  rw [q4] at this
  exact List.pairwise_map.mp this
end
section
variable {X : Cx}
/-- what sorted by a def's keys does -/
def rKey (X : Cx) : List V → List V → Hp → VK → Prop := fun vs zs H Q => ∃ (l f : Addr) (xs : List V) (kz : List Int) (R : Hp → Prop), vs = [.ref l] ∧ zs = [.ref f] ∧ SqL X.K H l xs ∧ kz.length = xs.length ∧ R H ∧
  (∀ (i : Nat) (v : V) (u : Value) (n : Int), xs[i]? = some v → RelV v u → kz[i]? = some n → ∀ (σ : L2.St) (pins' : List (Addr × Obj)) (s' : Shared) (Hc : Hp), Inv X pins' σ Hc s' → R Hc → wpAny (model X.prog X.w) X.A.in1.in1 (call (.ref f) [u]) (fun v s'' => ∃ t Hc', v = .int n t ∧ Inv X pins' σ Hc' s'' ∧ R Hc') (fun _ _ => False) s') ∧
  ∀ (ys : List V) (Hc : Hp) (p : Addr), SK.SortedBy kz xs ys → R Hc → Hc p = none → Q (.ref p) (upd Hc p (.lst ys))
theorem cr_key (hc : X.calm = true) (hu : X.A.units + 10 < cLine) : CallRK X (.builtin "sorted") [Str.ofString "key"] (rKey X) := by
  intro pins s σ H vs zs us ws Q I r rz ⟨l, f, xs, kz, R, e1, e2, hq, hl, h0, turn, fin⟩
  subst e1 e2
  obtain ⟨u, rfl, ru⟩ := vals1 r
  obtain ⟨w, rfl, rw'⟩ := vals1 rz
  cases ru; cases rw'
  obtain ⟨its, rv, pl, hz⟩ := I.list hq
  exact SK.sort_run R hc hu I pl.isList rv (by rw [hl, rv.length]) (by rw [← rv.length]; exact hz) h0 (fun i v u n h1 h2 h3 => turn i v u n h1 h2 h3 σ) fin
end
section
variable {S : Sig} {X : Cx} {δ : Sto} {e : Expr} {pos p kp yp : Pos} {kf : Sto → OV → Prop} {W : AW1} {lv : Nat} {y z : Str}
theorem AF.sortK (C : Can X.prog X.w X.mg X.base S lv y [z] W) (hr : Room (lv + 2) X.A) (hc : X.calm = true) (hK : X.K = S.K) (hm : X.mg "sorted" = none)
    (ha : AE S X e δ fun δ1 d => ∃ (ds : List DV) (ks : List Int), d = .lst ds ∧ ks.length = ds.length ∧ (∀ (i : Nat) (x : DV) (n : Int), ds[i]? = some x → ks[i]? = some n → W [.imm x] fun os r => os = [] ∧ r = .imm (.int n)) ∧ ∀ ys, SK.SortedBy ks ds ys → kf δ1 (.lst ys))
    (hg : Gl X "sorted" := by rfl) (hgy : Gl X y := by rfl) (hdb : (y == ("__debug__" : Str)) = false := by decide) (hst : starEach [e] X.env = (false, eval e X.env) :: starEach [] X.env := by rfl) (hpl : (backTo pos (starEach [e] X.env)).any (·.1) = false := by rfl)
    (he : backTo pos (starEach [e] X.env) = (false, eval e X.env) :: backTo pos (starEach [] X.env) := by rfl) (hall : (backToKw pos (keywordEach [⟨some (Str.ofString "key"), .Name y yp, kp⟩] X.env)).all (·.1.isSome) = true := by rfl)
    (hnone : (backToKw pos (keywordEach [⟨some (Str.ofString "key"), .Name y yp, kp⟩] X.env)).any (·.1.isNone) = false := by rfl) (hks : (backToKw pos (keywordEach [⟨some (Str.ofString "key"), .Name y yp, kp⟩] X.env)).filterMap (·.1) = [Str.ofString "key"] := by rfl) :
    AF S X (.Call (.Name "sorted" p) [e] [⟨some (Str.ofString "key"), .Name y yp, kp⟩] pos) δ kf := fun G σ B H R => by
  obtain ⟨f, fd, F, hmf, hk, hb⟩ := C.ex
  rw [← hK] at F hk hb
  have hu : X.A.units + 10 < cLine := by have := hr.un; omega
  refine WE.of (pe_callBK (cr_key hc hu) hg hm boot_sorted (pa_cons (pw_e e) pa_nil hst) (pk_cons (pe_glob (v := .ref f) hgy hmf rfl hdb) pk_nil) (he := he) (hpl := hpl) (hall := hall) (hnone := hnone) (hks := hks)) ((ha G σ B H R).imp fun v H1 ⟨B1, δ1, d, e1, R1, r, ds, ks, hd, hl, hw, hy⟩ => ?_)
  subst hd
  obtain ⟨l, xs, rfl, hx, hrep⟩ := r.lst_inv
  refine ⟨l, f, xs, ks, fun Hc => ∃ B2, Ex B1 B2 ∧ Rst S G σ B2 Hc δ1, rfl, rfl, sq_of (R1.ex _ _ hx), by rw [hl, hrep.length], ⟨B1, Ex.refl B1, R1⟩, ?_, ?_⟩
  · rintro i v u n hv ru hn σ' pins' s' Hc I ⟨B2, e2, R2⟩
    obtain ⟨x, hx', rx⟩ := hrep.get' hv
    have hw1 := hw i x n hx' hn
    have sp := sp_of (ps := [z]) (W := W) (vs := [v]) (as := [.d x]) (Q := fun r H' => r = .int n ∧ ∃ B3, Ex B1 B3 ∧ Rst S G σ B3 H' δ1) R2 (.cons (show ArgOk S σ B2 v (.d x) from rx.mono e2) .nil) (OkA.d rfl rfl) hw1 (fun w B3 H3 os r e3 R3 hr3 ⟨ho, hk3⟩ => by
      subst ho hk3
      exact ⟨hr3.int_inv, B3, e2.trans e3, R3⟩) E0
    have hr1 : Room lv X.A.in1.in1 := (hr.in1).in1
    have hl1 : ([u] ++ ([] : List Value)).length = [z].length := rfl
    have hb1 := hb s' [u] I.kIn hl1
    refine wpAny_call (codeAny_mono (F.run X.A.in1.in1 X.stack s' Hc ⟨[u], []⟩ ([u] ++ []) ([v] ++ []) _ E0 hr1 I.env0.in1.in1 hb1 (.cons ru .nil) sp) fun r s2 hq => ?_)
    cases r with
    | error e => exact hq.elim
    | ok fl =>
      cases fl with
      | ret w =>
        obtain ⟨w', H', I', rw', ew, q⟩ := I.after hq
        subst ew
        obtain ⟨t, rfl⟩ := rw'
        exact ⟨t, H', rfl, I', q⟩
      | next => exact False.elim hq
      | brk => exact False.elim hq
      | cont => exact False.elim hq
  · rintro ys Hc p' hs ⟨B2, e2, R2⟩ hp
    obtain ⟨es, h1, h2⟩ := sorted_rep hs (hrep.mono e2)
    exact ⟨B2, δ1, .lst es, e1.trans e2, R2.fresh hp, New.lst R2 hp h2, hy es h1⟩
end
end AX
namespace AX
open PySem PySem.Spec PyProof.Rows L2 Evl
/-! ## slices, list(range(n)), sorted ints, stars, own lists compared, t * n -/
section
variable {S : Sig} {X : Cx} {δ : Sto} {a b c e : Expr} {es : List Expr} {pos p p1 p2 p3 : Pos} {k : Sto → DV → Prop} {kt : Sto → Bool → Prop} {kf : Sto → OV → Prop} {ka : Sto → List Arg → Prop} {ko : Sto → Option Int → Prop} {x : Str}
/-! ### slices -/
def WO (X : Cx) (e : Option Expr) : TO := fun σ H Q => ∀ pins s, Inv X pins σ H s → wpAny (model X.prog X.w) X.A (evalPart e X.env) (fun u s' => ∃ o H', Inv X pins σ H' s' ∧ IsPart u o ∧ Q o H') X.xe s
theorem pw_o (e : Option Expr) : PO X e (WO X e) := ⟨fun pins s _ _ _ I h => h pins s I⟩
theorem WO.imp {σ : L2.St} {H : Hp} {o : Option Expr} {Q Q' : Option Int → Hp → Prop} (h : WO X o σ H Q) (k : ∀ v H, Q v H → Q' v H) : WO X o σ H Q' := fun pins s I => thn (h pins s I) fun _ _ ⟨v, H, I, r, q⟩ => ⟨v, H, I, r, k v H q⟩
def AO (S : Sig) (X : Cx) (o : Option Expr) (δ : Sto) (k : Sto → Option Int → Prop) : Prop :=
  ∀ G σ B H, Rst S G σ B H δ → WO X o σ H fun v H' => ∃ B' δ', Ex B B' ∧ Rst S G σ B' H' δ' ∧ k δ' v
theorem AO.none (h : ko δ none) : AO S X none δ ko := fun G σ B H R pins s I => po_none.run pins s σ H _ I ⟨B, δ, Ex.refl B, R, h⟩
theorem AO.some (h : AE S X e δ fun δ1 d => ∃ i, d = .int i ∧ ko δ1 (some i)) : AO S X (some e) δ ko := fun G σ B H R pins s I =>
  (po_some (pw_e e)).run pins s σ H _ I ((h G σ B H R).imp fun v H1 ⟨B1, δ1, d, e1, R1, r, i, hd, q⟩ => by
    subst hd
    exact ⟨i, r.int_inv, B1, δ1, e1, R1, q⟩)
/-- the items of xs[lo:hi] -/
def cutD (xs : List DV) (lo hi : Option Int) : List DV := (xs.drop (HT.sIx xs.length 0 lo)).take (HT.sIx xs.length xs.length hi - HT.sIx xs.length 0 lo)
theorem cut_rep {B : Hp} {vs : List V} {ds : List DV} (r : RepL S B vs ds) (lo hi : Option Int) : RepL S B (cutV vs lo hi) (cutD ds lo hi) := by
  unfold cutV cutD
  rw [r.length]
  exact (r.drop _).take _
theorem AF.slice {lo hi : Option Expr} (h : AE S X e δ fun δ1 d => AO S X lo δ1 fun δ2 l => AO S X hi δ2 fun δ3 u => ∃ ds, d = .lst ds ∧ kf δ3 (.lst (cutD ds l u))) : AF S X (.Subscript e (.Slice lo hi none p2) pos) δ kf := fun G σ B H R =>
  WE.of (pe_slice sl_list (pw_e e) (pw_o lo) (pw_o hi)) ((h G σ B H R).imp fun v H1 ⟨B1, δ1, d, e1, R1, r, q1⟩ => (q1 G σ B1 H1 R1).imp fun l H2 ⟨B2, δ2, e2, R2, q2⟩ => (q2 G σ B2 H2 R2).imp fun u H3 ⟨B3, δ3, e3, R3, ds, hd, q3⟩ => by
    subst hd
    obtain ⟨a, xs, rfl, hx, hr⟩ := r.lst_inv
    have e23 := e2.trans e3
    exact ⟨a, xs, rfl, sq_of (R3.ex _ _ (e23 _ _ hx)), fun p hp => ⟨B3, δ3, _, e1.trans e23, R3.fresh hp, New.lst R3 hp (cut_rep (hr.mono e23) l u), q3⟩⟩)
theorem AF.rev {kk : Nat} (h : AE S X e δ fun δ1 d => ∃ ds, d = .lst ds ∧ kf δ1 (.lst ds.reverse)) : AF S X (.Subscript e (.Slice none none (some (.UnaryOp .USub (.Constant (.int 1) kk p1) p2)) p3) pos) δ kf := fun G σ B H R =>
  WE.of (pe_revL (pw_e e)) ((h G σ B H R).imp fun v H1 ⟨B1, δ1, d, e1, R1, r, ds, hd, q⟩ => by
    subst hd
    obtain ⟨a, xs, rfl, hx, hr⟩ := r.lst_inv
    exact ⟨a, xs, rfl, sq_of (R1.ex _ _ hx), fun p hp => ⟨B1, δ1, _, e1, R1.fresh hp, New.lst R1 hp hr.reverse, q⟩⟩)
/-! ### list(range(n)), sorted(ints) -/
theorem AF.listRg {q q2 p4 : Pos} (hc : X.calm = true) (hm : X.mg "list" = none) (hm2 : X.mg "range" = none) (h : AE S X e δ fun δ1 d => ∃ n : Nat, d = .int n ∧ n ≤ 100000 ∧ kf δ1 (.lst (rngD 0 n))) (hg : Gl X "list" := by rfl) (hg2 : Gl X "range" := by rfl)
    (na : starEach [e] X.env = (false, eval e X.env) :: starEach [] X.env := by rfl) (nb : starEach [.Call (.Name "range" q) [e] [] q2] X.env = (false, eval (.Call (.Name "range" q) [e] [] q2) X.env) :: starEach [] X.env := by rfl) : AF S X (.Call (.Name "list" p) [.Call (.Name "range" q) [e] [] q2] [] p4) δ kf := fun G σ B H R =>
  WE.of (pe_listRg hc hg hm (prg_1 hg2 hm2 (pw_e e) na) nb) ((h G σ B H R).imp fun v H1 ⟨B1, δ1, d, e1, R1, r, n, hd, hn, hk⟩ => by
    subst hd
    refine ⟨n, r.int_inv, RgOk.of_le (by omega) (by omega) (by omega) (by omega), fun p hp => ⟨B1, δ1, _, e1, R1.fresh hp, New.lst R1 hp ?_, hk⟩⟩
    have : rgV 0 n = ((List.range n).map fun i : Nat => (0 + (i : Int))).map V.int := by unfold rgV; rw [List.map_map]; simp
    rw [this]
    have : rngD 0 n = ((List.range n).map fun i : Nat => (0 + (i : Int))).map DV.int := by unfold rngD; rw [List.map_map]; rfl
    rw [this]
    exact RepL.ints _)
theorem AF.sortI (hm : X.mg "sorted" = none) (h : AE S X e δ fun δ1 d => ∃ ns : List Int, d = .lst (ns.map DV.int) ∧ ∀ ns' : List Int, ns'.Perm ns → ns'.Pairwise (· ≤ ·) → kf δ1 (.lst (ns'.map DV.int))) (hK : X.K = S.K) (hg : Gl X "sorted" := by rfl)
    (he : starEach [e] X.env = (false, eval e X.env) :: starEach [] X.env := by rfl) (hpl : (backTo pos (starEach [] X.env)).any (·.1) = false := by rfl) : AF S X (.Call (.Name "sorted" p) [e] [] pos) δ kf := fun G σ B H R =>
  WE.of (pe_callB cr_sortedI hg hm boot_sorted (pa_cons (pw_e e) pa_nil he) (by decide) (by decide) he hpl) ((h G σ B H R).imp fun v H1 ⟨B1, δ1, d, e1, R1, r, ns, hd, q⟩ => by
    subst hd
    obtain ⟨a, xs, rfl, hx, hr⟩ := r.lst_inv
    refine ⟨a, ns, rfl, by rw [← hr.ints_inv]; exact sq_of (R1.ex _ _ hx), fun ns' p h1 h2 hp => ⟨B1, δ1, _, e1, R1.fresh hp, New.lst R1 hp (RepL.ints ns'), q ns' h1 h2⟩⟩)
/-! ### [*xs, ..] -/
theorem AA.star {sp : Pos} (he : AE S X e δ fun δ1 d => ∃ ds, d.seq? = some ds ∧ AA S X es δ1 fun δ2 as => ka δ2 (ds.map Arg.d ++ as)) (hK : X.K = S.K) (hst : starEach (.Starred e sp :: es) X.env = (true, eval e X.env) :: starEach es X.env := by rfl) : AA S X (.Starred e sp :: es) δ ka := fun G σ B H R =>
  WA.of (StX.pa_star (pw_e e) (pw_a es) hst) ((he G σ B H R).imp fun v H1 ⟨B1, δ1, d, e1, R1, r1, ds, hd, h1⟩ => by
    obtain ⟨a, us, rfl, hx, hr⟩ := r1.seq R1.ex hd
    refine ⟨a, us, rfl, ?_, (h1 G σ B1 H1 R1).imp fun vs H2 ⟨B2, δ2, as, e2, R2, r2, q⟩ => ⟨B2, δ2, _, e1.trans e2, R2, ?_, q⟩⟩
    · rw [hK]; exact hx.symm
    · have : ∀ {us : List V} {ds : List DV}, RepL S B2 us ds → Paired (ArgOk S σ B2) (us ++ vs) (ds.map Arg.d ++ as) := by
        intro us ds r
        induction us generalizing ds with
        | nil => cases r; exact r2
        | cons u us ih => cases r with | cons h t => exact .cons (b := Arg.d _) h (ih t)
      exact this (hr.mono e2))
/-! ### own lists compared -/
def P2O (S : Sig) (r : R2) (ds : List DV) (y : DV) (z : Bool) : Prop := ∀ (B H : Hp) (l : Addr) (vs : List V) (w : V) (Q : VK), H l = some (.lst vs) → Ex B H → RepL S B vs ds → Rep S B w y → Q (.bl z) H → r (.ref l) w H Q
theorem AT.cmpO {op : CmpOp} {r : R2} (i : Nat) {xp : Pos} (ho : OpR X (compareOp op) r) {p0 : Option Nat} {o0 : List DV} (hv : δ[i]? = some (some (.own p0 (.lst o0)))) (hb : AE S X b δ fun δ2 y => ∃ (q : Option Nat) (ds : List DV) (z : Bool), δ2[i]? = some (some (.own q (.lst ds))) ∧ P2O S r ds y z ∧ kt δ2 z) (n : NameOk X i x := by exact NameOk.of) (hm : behindInMarks op b = false := by first | exact nomark _ | rfl) : AT S X (.Compare (.Name x xp) [op] [b] pos) δ kt := fun G σ B H R => by
  obtain ⟨l, e1, _⟩ := R.sl i _ hv
  refine WT.of (pt_cmpR ho n.pe (pw_e b) hm) ⟨.ref l, e1, (hb G σ B H R).imp fun w H1 ⟨B1, δ1, y, e2, R1, r1, q, ds, z, h1, hp, hk⟩ => ?_⟩
  obtain ⟨l', g1, ⟨vs, g2, g3⟩, _⟩ := R1.sl i _ h1
  rw [e1] at g1
  have : l = l' := by injection (Option.some.inj (Option.some.inj g1))
  subst this
  exact hp B1 H1 l vs w _ g2 R1.ex g3 r1 ⟨z, rfl, B1, δ1, e2, R1, hk⟩
theorem p2o_ne {ds : List DV} {y : DV} (hx : DV.plainL ds = true) (hy : y.plain = true) (h1 : SeqAt.shaped (DV.lst ds).py = true) (h2 : SeqAt.shaped y.py = true) : P2O S (rNeD S.K) ds y (!PyData.eqv (DV.lst ds).py y.py) := fun B H l vs w Q h e r1 r2 q =>
  ⟨_, _, .lst (sq_of h) (RepL.dp e r1 hx), r2.dp e hy, h1, h2, q⟩
theorem p2o_eq {ds : List DV} {y : DV} (hx : DV.plainL ds = true) (hy : y.plain = true) (h1 : SeqAt.shaped (DV.lst ds).py = true) (h2 : SeqAt.shaped y.py = true) : P2O S (rEqD S.K) ds y (PyData.eqv (DV.lst ds).py y.py) := fun B H l vs w Q h e r1 r2 q =>
  ⟨_, _, .lst (sq_of h) (RepL.dp e r1 hx), r2.dp e hy, h1, h2, q⟩
/-! ### t * n -/
theorem p2n_repT {xs : List DV} {n : Int} (h1 : 2 ≤ n) (h2 : n ≤ 1000) (hne : xs ≠ []) (hz : xs.length ≤ 1000) : P2N S (rRepT S.K) (.tup xs) (.int n) (.tup (List.replicate n.toNat xs).flatten) := fun G σ B H δ v w Q R r1 r2 q => by
  obtain ⟨a, us, rfl, hx, hr⟩ := r1.tup_inv
  refine ⟨a, n, us, rfl, r2.int_inv, ex_t R.ex hx, fun z => hne (List.eq_nil_of_length_eq_zero (by rw [← hr.length, z]; rfl)), h1, h2, by rw [hr.length]; exact hz, fun p hp => q _ _ _ (Ex.new (fresh_back R.ex hp)) (R.laid hp (fun _ z => by cases z)) (.tup (st_of upd_same) ((rep_rep hr _).mono (Ex.new (fresh_back R.ex hp))))⟩
end
end AX
namespace AX
open PySem PySem.Spec PyProof.Rows L2 Evl
/-! ## a def that makes lambdas; x(lambda: body), x answers ("told", what the lambda gives) -/
/-- as L2.Fun, its code object at c -/
structure FunC (K : PySem.W.Frag) (x qual : Str) (st : Stmt) (f : Addr) (fd : FuncData) (c : Addr) : Prop where
  ex : ∃ (oc : Value) (od : Option Addr) (kV doc pm : Value) (an : Option Addr) (ct : Value) (osl : Array (Option Value)),
    fd = PySem.W.fnOf x qual (defArgs st) (defBody st) (defScope st) .none kV doc pm an (.ref c) ct ∧ K.lookup f = some ⟨oc, od, .func fd, osl⟩ ∧ PySem.W.codeIn K (.ref c) qual = true
  kp : PySem.W.keepIn K (.ref f) = true
theorem FunC.fun {K : PySem.W.Frag} {x qual : Str} {st : Stmt} {f : Addr} {fd : FuncData} {c : Addr} (F : FunC K x qual st f fd c) : L2.Fun K x qual st f fd := by
  obtain ⟨oc, od, kV, doc, pm, an, ct, osl, h1, h2, h3⟩ := F.ex
  exact ⟨⟨oc, od, kV, doc, pm, an, .ref c, ct, osl, h1, h2, h3⟩, F.kp⟩
theorem fin_of {S : Sig} {x qual : Str} {st : Stmt} {N ps : List Str} {k : Nat} {W : AW1} {P : Program} {w : World} {mg : Str → Option Value} {base : Heap} {f : Addr} {cdv : Value} {A : Around} {outer : List Env} {s : Shared} {H : Hp} {E : XK} {vs : List V} {Q : VK}
    (hr : Room k (A.deeper (envOfC qual (defScope st) s.heap.objs.size f cdv))) (hsp : spA S ps.length W vs H Q E)
    (hbody : ∀ avs kk, avs.length = ps.length → W avs kk → Do S (cxOf CX0 P w S.K mg base N qual (defScope st) f cdv A outer s H E).nox (defBody st) (startS N.length avs) (Fin avs kk)) :
    ∃ t, PSs (cxOf CX0 P w S.K mg base N qual (defScope st) f cdv A outer s H E).nox (defBody st) t ∧ t { nx := fun _ H' => Q .non H', rt := Q } (L2.start N vs) H := by
  obtain ⟨B, avs, kk, h1, h2, h3, h4, h5, h6, h7, h8, h9⟩ := hsp
  have R := rst_start (N := N) h1 h2 h3 h5 h6 h7
  refine ⟨_, pw_ss _, fun pins s1 I => thn (hbody avs kk (by rw [← h4]; exact (Paired.length h5).symm) h8 _ _ B H R pins s1 I) fun fl s' z => ?_⟩
  have fin : ∀ {σ' : L2.St} {B' H' : Hp} {δ' : Sto} {v : V} {r : AV} {os : List OV}, Rst S ⟨B, H, ownA vs avs⟩ σ' B' H' δ' → RetN S B' H' H v r → (∀ (j : Nat) (o : OV), os[j]? = some o → ∃ i : Nat, δ'[i]? = some (some (AV.own (some j) o))) → os.length = (ownO avs).length → kk os r → Q v H' :=
    fun {σ' B' H' δ' v r os} R' hr' ho hl hk => h9 v B' H' os r R'.exB R'.nt R'.ex R'.tab R'.keep R'.al R'.fr (fin_back R' ho (by rw [hl]; exact (ownA_len h5).symm)) hr' hk
  cases fl with
  | next =>
    obtain ⟨σ', H', I', B', δ', R', os, ho, hl, hk⟩ := z
    exact ⟨σ', H', I', fin R' (show RetN S B' H' H .non (.imm .non) from .non) ho hl hk⟩
  | brk => obtain ⟨_, _, _, _, _, _, z⟩ := z; exact z.elim
  | cont => obtain ⟨_, _, _, _, _, _, z⟩ := z; exact z.elim
  | ret u =>
    obtain ⟨v, σ', H', I', rv, σ2, B', δ', r, R', ro, os, ho, hl, hk⟩ := z
    refine ⟨v, σ', H', I', rv, fin R' ?_ ho hl hk⟩
    cases r with
    | imm d => exact ro
    | own p o => exact ro
theorem fn_okC {S : Sig} {x qual : Str} {st : Stmt} {f c : Addr} {fd : FuncData} {N ps : List Str} {k : Nat} {W : AW1} {P : Program} {w : World} {mg : Str → Option Value} {base : Heap} (F : FunC S.K x qual st f fd c) (SC : FnScope N ps (defScope st))
    (hbody : ∀ (A : Around) (outer : List Env) (s : Shared) (H : Hp) (E : XK), Room k (A.deeper (envOfC qual (defScope st) s.heap.objs.size f (.ref c))) → ∀ avs kk, avs.length = ps.length → W avs kk →
      Do S (cxOf CX0 P w S.K mg base N qual (defScope st) f (.ref c) A outer s H E).nox (defBody st) (startS N.length avs) (Fin avs kk)) : FnOk P w S.K mg base CX0 (k + 1) f fd ps (spA S ps.length W) := by
  obtain ⟨oc, od, kV, doc, pm, an, ct, osl, rfl, lk, hcd⟩ := F.ex
  refine fn_of lk hcd SC (fun vs H Q E h => ?_) fun A outer s H vs Q E hr hsp => ?_
  · obtain ⟨B, avs, kk, _, _, _, hl, _⟩ := h
    exact hl
  · obtain ⟨t, h, q⟩ := fin_of (N := N) (x := x) (ps := ps) (qual := qual) (st := st) (P := P) (w := w) (mg := mg) (base := base) (f := f) (A := A) (outer := outer) (E := E) hr hsp (hbody A outer s H E hr)
    exact ⟨t, h.nox, q⟩
section
variable {S : Sig} {G : Gh} {σ : L2.St} {B H H' : Hp} {δ : Sto}
/-- tables and code objects made on the way -/
theorem Rst.extN (R : Rst S G σ B H δ) (e : LamX.ExtN H H') (t : LamX.Tabs S.T H') : Rst S G σ B H' δ where
  exB := R.exB
  nt := R.nt
  ex := fun a o h => e a o (R.ex a o h) fun ps z => R.nt a ps (by rw [h, z])
  tab := t
  keep := fun a o h1 h2 h3 => e a o (R.keep a o h1 h2 h3) h2
  al := fun a h z => R.al a h fun o ho => by
    by_cases q : ∃ ps, o = .tbl ps
    · exact q
    · exact z o (e a o ho fun ps w => q ⟨ps, w⟩)
  l0 := R.l0
  fr := R.fr
  len := R.len
  sl := fun i av h => by
    have q := R.sl i av h
    cases av with
    | imm d => exact q
    | own p o =>
      obtain ⟨l, q1, q2, q3⟩ := q
      obtain ⟨u, hu, hn⟩ := q2.some
      exact ⟨l, q1, q2.mono (Ex.refl B) (by rw [hu]; exact e l u hu hn), q3⟩
  sep := R.sep
end
/-- try: return ("told", a()) / except ..: the lambda raises nothing -/
def TTh : (XK → Hp → VK → Prop) → Hp → VK → Prop := fun tl H Q => tl (fun _ _ _ => False) H fun v H1 => [V.str "told", v].length ≤ sizeLine ∧ ∀ p, H1 p = none → Q (.ref p) (upd H1 p (.tup [.str "told", v]))
theorem told_gives {X : Cx} {Ng : List Str} {x a q : Str} {sg : Scope} {g : Addr} {cdg : Value} {j kk : Nat} {p1 p2 p3 p4 p5 p6 : Pos} {h0 : ExceptHandler} {hs : List ExceptHandler} (hl : ∀ f : Addr, (L2.start Ng [V.ref f])[0]? = some (some (V.ref f))) :
    LamX.GivesTo X Ng x sg g cdg [.Try [.Return (some (.Tuple [.Constant (.str "told") j p1, .Call (.Name a p2) [] [] p3] kk p4)) p5] (h0 :: hs) [] [] p6] a q TTh := by
  intro f c' s H Q tl act hc h
  have hp := act (fun _ _ _ _ => False) [] (fun _ _ => False) (fun _ _ _ => False) p2 p3 LamX.takes0 fun _ _ _ _ z => z
  refine ⟨_, pss_one (ps_try_thru0 (pss_one (ps_ret (pe_tup (pa_cons pe_str (pa_cons hp pa_nil)))))), ?_⟩
  exact ⟨hl f, hc, h⟩
/-- what is known of the def that hears -/
structure Hears (X : Cx) (x a : Str) (st : Stmt) : Prop where
  ex : ∃ (g : Addr) (oc : Value) (od : Option Addr) (kV doc pm : Value) (an : Option Addr) (cdv ct : Value) (osl : Array (Option Value)), X.mg x = some (.ref g) ∧ PySem.W.keepIn X.K (.ref g) = true ∧
    X.K.lookup g = some ⟨oc, od, .func (PySem.W.fnOf x x (defArgs st) (defBody st) (defScope st) .none kV doc pm an cdv ct), osl⟩ ∧ PySem.W.codeIn X.K cdv x = true ∧ L2.Binds X.K (PySem.W.fnOf x x (defArgs st) (defBody st) (defScope st) .none kV doc pm an cdv ct) [a] []
  sc : FnScope [a] [a] (defScope st)
  va : Vis (defScope st) a
theorem Hears.of {X : Cx} {x a : Str} {st : Stmt} {g : Addr} {fd : FuncData} (F : L2.Fun X.K x x st g fd) (hm : X.mg x = some (.ref g)) (hb : L2.Binds X.K fd [a] []) (sc : FnScope [a] [a] (defScope st)) (va : Vis (defScope st) a) : Hears X x a st := by
  obtain ⟨oc, od, kV, doc, pm, an, cdv, ct, osl, rfl, h2, h3⟩ := F.ex
  exact ⟨⟨g, oc, od, kV, doc, pm, an, cdv, ct, osl, hm, F.kp, h2, h3, hb⟩, sc, va⟩
section
variable {S : Sig} {X : Cx} {δ : Sto} {k : Sto → DV → Prop}
def LamRoom (X : Cx) (lv : Nat) (scope : Scope) (A : Around) (s : Shared) (f c' : Addr) : Prop := Room lv (A.deeper (LamX.lamEnv X scope s.heap.objs.size f c'))
theorem AE.heard {x a : Str} {st : Stmt} {c P : Addr} {lv : Nat} {params : Arguments} {body : Expr} {scope : Scope} {p lpos pos : Pos} {j kk : Nat} {p1 p2 p3 p4 p5 p6 : Pos} {h0 : ExceptHandler} {hs : List ExceptHandler} (Hr : Hears X x a st) (hbody : defBody st = [.Try [.Return (some (.Tuple [.Constant (.str "told") j p1, .Call (.Name a p2) [] [] p3] kk p4)) p5] (h0 :: hs) [] [] p6])
    (hg : Gl X x) (TB : LamX.TabB X.base X.mg c P) (hcode : X.env.code = .ref c) (hmT : (P, X.env.qual ++ "<lambda>") ∈ S.T) (hu : ∀ q ∈ S.T, q.1 = P → q.2 = X.env.qual ++ "<lambda>") (hr : Room (lv + 2) X.A) (L : LamX.LamS X.env.scope scope) (hdef : defaultsOf params X.env = ([], []))
    (hbind : ∀ (q : Str) (cl : List (Str × Addr)) (pm cv ctv : Value), bindArgs (PySem.W.kla_fn "<lambda>" q params body scope cl pm cv ctv) ⟨[], []⟩ = pure [])
    (h : ∀ (A : Around) (outer : List Env) (s : Shared) (H0 : Hp) (f c' : Addr), LamRoom X lv scope A s f c' → AE S (LamX.lamCx X A outer s H0 (fun _ _ _ => False) scope f c') body δ fun δ1 d => k δ1 (.tup [.str "told", d]))
    (hdb : (x == ("__debug__" : Str)) = false := by decide) (hd : (a == ("__debug__" : Str)) = false := by decide) (hcd : (a == ("__classdict__" : Str)) = false := by decide) : AE S X (.Call (.Name x p) [.Lambda params body scope lpos] [] pos) δ k := fun G σ B H R => by
  obtain ⟨g, oc, od, kV, doc, pm, an, cdv, ct, osl, hm, hk, lk, hcg, hb⟩ := Hr.ex
  have hG : LamX.GivesTo X [a] x (defScope st) g cdv (defBody st) a (X.env.qual ++ "<lambda>") TTh := by rw [hbody]; exact told_gives fun f => rfl
  refine WE.of (LamX.pe_lamcall (k := lv) (t := fun E σ H Q => ∀ (A : Around) (outer : List Env) (s : Shared) (H0 : Hp) (f c' : Addr), LamRoom X lv scope A s f c' → WE (LamX.lamCx X A outer s H0 E scope f c') body σ H Q) hg hm hk lk hcg hb Hr.sc rfl Hr.va hG TB hcode hmT hu hr L hdef hbind (fun A outer s H0 E f c' hr' => ⟨fun pins s' σ' H' Q I q => q A outer s H0 f c' hr' pins s' I⟩) hdb hd hcd) ⟨R.tab, fun H1 e1 t1 A outer s H0 f c' hr' => ?_⟩
  refine (h A outer s H0 f c' hr' G σ B H1 (R.extN e1 t1)).imp fun v H2 ⟨B2, δ2, d, e2, R2, r, q⟩ => ⟨sz_of (show 2 ≤ 100000 by decide), fun p hp => ?_⟩
  have bp := fresh_back R2.ex hp
  exact ⟨upd B2 p (.tup [.str "told", v]), δ2, _, e2.trans (Ex.new bp), R2.laid hp (fun _ z => by cases z), .tup (st_of upd_same) (.cons (.str _) (.cons (r.mono (Ex.new bp)) .nil)), q⟩
end
end AX
namespace AX
open PySem PySem.Spec PyProof.Rows L2 Evl
theorem fin0 {avs : List AV} {kk : List OV → AV → Prop} {δ : Sto} {r : AV} (ho : ownO avs = []) (h : kk [] r) : (Fin avs kk).rt δ r := ⟨[], fun j o z => by simp at z, by rw [ho] <;> rfl, h⟩
/-- one own parameter, in the slot i -/
theorem fin1 {avs : List AV} {kk : List OV → AV → Prop} {δ : Sto} {r : AV} {o o0 : OV} (i : Nat) (ho : ownO avs = [o0]) (hi : δ[i]? = some (some (AV.own (some 0) o))) (h : kk [o] r) : (Fin avs kk).rt δ r :=
  ⟨[o], fun j u z => by
    cases j with
    | zero => simp at z; subst z; exact ⟨i, hi⟩
    | succ j => simp at z, by rw [ho] <;> rfl, h⟩
def noOwnB (δ : Sto) (vs : List Nat) : Bool := vs.all fun j => match δ[j]? with
  | some (some (.own _ _)) => false
  | _ => true
theorem noOwn {δ : Sto} {vs : List Nat} (h : noOwnB δ vs = true) : NoOwn δ vs := fun j hj p o e => by
  have q := List.all_eq_true.mp h j hj
  rw [e] at q
  cases q
/-- a comprehension that makes ys, an item of each -/
theorem Comp.to {S : Sig} {X : Cx} {δ1 : Sto} {scope : Scope} {tg elt : Expr} {ifs : List Expr} {vs : List Nat} {ds : List DV} {kf : Sto → OV → Prop} (js : List Nat) (ys : List DV) (hj : ∀ j ∈ js, j ∈ vs) (hl : ys.length = ds.length) (hz : ds.length ≤ 100000) (no : NoOwn δ1 vs)
    (h : ∀ (i : Nat) (x y : DV), ds[i]? = some x → ys[i]? = some y → ∀ s0 H0 C cl fp, AG S (BX X scope s0 H0 C cl fp) tg js x (wipeS δ1 vs) fun δ3 => ∀ s0 H0 C cl fp, ATs S (BX X scope s0 H0 C cl fp) ifs δ3 fun δ4 b => b = true ∧ ∀ s0 H0 C cl fp, AE S (BX X scope s0 H0 C cl fp) elt δ4 fun δ5 z => wipeS δ5 vs = wipeS δ1 vs ∧ z = y)
    (hk : kf δ1 (.lst ys)) : Comp S X scope tg elt ifs vs ds δ1 kf := by
  refine ⟨hz, no, fun i δ2 acc => δ2 = wipeS δ1 vs ∧ acc = ys.take i, ⟨rfl, by simp⟩, ?_, ?_⟩
  · rintro i x δ2 acc hx ⟨rfl, rfl⟩
    have hi : i < ys.length := by rw [hl]; exact (List.getElem?_eq_some_iff.mp hx).1
    refine ⟨js, hj, fun s0 H0 C cl fp G σ B H v R r => (h i x _ hx (List.getElem?_eq_getElem hi) s0 H0 C cl fp G σ B H v R r).imp fun σ' H' ⟨l, B', δ', e, R', q⟩ => ⟨l, B', δ', e, R', fun s0 H0 C cl fp G σ B H R => ?_⟩⟩
    refine fun pins s I => thn (q s0 H0 C cl fp G σ B H R pins s I) fun b s' ⟨H3, I3, B4, δ4, e4, R4, eb, q5⟩ => ⟨H3, I3, B4, δ4, e4, R4, ?_⟩
    subst eb
    rw [if_pos rfl]
    intro s0 H0 C cl fp
    refine (q5 s0 H0 C cl fp).imp fun δ5 z ⟨h1, h2⟩ => ⟨h1, ?_⟩
    rw [h2, List.take_add_one, List.getElem?_eq_getElem hi] <;> rfl
  · rintro δ2 acc ⟨rfl, rfl⟩
    rw [restS_wipe, ← hl, List.take_length]
    exact hk
theorem fm_zip {α β : Type} (g : α → Option β) : ∀ (xs : List α) (n : Nat), ((xs.zipIdx n).filterMap fun p => g p.1) = xs.filterMap g
  | [], _ => rfl
  | x :: xs, n => by rw [List.zipIdx_cons, List.filterMap_cons, List.filterMap_cons, fm_zip g xs (n + 1)]
/-- a comprehension with tests: what g makes of each item -/
theorem Comp.filt {S : Sig} {X : Cx} {δ1 : Sto} {scope : Scope} {tg elt : Expr} {ifs : List Expr} {vs : List Nat} {ds : List DV} {kf : Sto → OV → Prop} (js : List Nat) (g : DV → Option DV) (hj : ∀ j ∈ js, j ∈ vs) (hz : ds.length ≤ 100000) (no : NoOwn δ1 vs)
    (h : ∀ (i : Nat) (x : DV), ds[i]? = some x → ∀ s0 H0 C cl fp, AG S (BX X scope s0 H0 C cl fp) tg js x (wipeS δ1 vs) fun δ3 => ∀ s0 H0 C cl fp, ATs S (BX X scope s0 H0 C cl fp) ifs δ3 fun δ4 b => wipeS δ4 vs = wipeS δ1 vs ∧ if b = true then ∀ s0 H0 C cl fp, AE S (BX X scope s0 H0 C cl fp) elt δ4 fun δ5 y => wipeS δ5 vs = wipeS δ1 vs ∧ g x = some y else g x = none)
    (hk : kf δ1 (.lst (ds.filterMap g))) : Comp S X scope tg elt ifs vs ds δ1 kf :=
  Comp.pure js hj (fun _ x => g x) hz no h fun acc ha => by rw [ha, fm_zip]; exact hk
theorem map_get {α β : Type} {f : α → β} {xs : List α} {i : Nat} {y : β} (h : (xs.map f)[i]? = some y) : ∃ x, xs[i]? = some x ∧ y = f x := by
  rw [List.getElem?_map] at h
  cases q : xs[i]? with
  | none => rw [q] at h; cases h
  | some n => rw [q] at h; exact ⟨n, rfl, (Option.some.inj h).symm⟩
end AX
namespace AX
open PySem PySem.Spec PyProof.Rows L2 Evl
/-! ## x, y = two new things -/
section
variable {S : Sig} {G : Gh} {σ σ2 : L2.St} {B B2 H H2 : Hp} {δ δ2 : Sto}
/-- the first new thing lives on while the second is made -/
theorem two_new (R : Rst S G σ B H δ) {D : Addr} {ds : List DV} {v : V} {o : OV} (n : New S G σ B H δ (.ref D) (.lst ds)) (R2 : Rst S (G.with B D (H D)) σ B2 H2 δ2) (n2 : New S (G.with B D (H D)) σ B2 H2 δ2 v o) :
    Rst S G σ B2 H2 δ2 ∧ New S G σ B2 H2 δ2 (.ref D) (.lst ds) ∧ New S G σ B2 H2 δ2 v o ∧ v ≠ .ref D := by
  obtain ⟨l, e, ⟨vs, hv, rv⟩, q3, q4, q5⟩ := id n
  have e : D = l := by injection e
  subst e
  obtain ⟨R3, h3, n3⟩ := R.held n hv rv R2
  obtain ⟨l2, rfl, m1, m2, m3, m4⟩ := n2
  have ne : l2 ≠ D := fun z => by
    have m3 : Nn (fun a => if a = D then H D else G.H0 a) l2 := m3
    obtain ⟨ps, ep⟩ := m3 (.lst vs) (by show (if l2 = D then H D else _) = _; rw [if_pos z]; exact hv)
    cases ep
  refine ⟨R3, n3, ⟨l2, rfl, m1, m2, fun o ho => ?_, m4⟩, fun z => ne (by injection z)⟩
  exact m3 o (by show (if l2 = D then H D else G.H0 l2) = _; rw [if_neg ne]; exact ho)
theorem New.put {i : Nat} {v w : V} {o u : OV} (n : New S G σ B H δ v o) (ne : v ≠ w) (hi : i < δ.length) (hl : σ.length = δ.length) : New S G (σ.set i (some w)) B H (δ.set i (some (.own none u))) v o := by
  obtain ⟨l, rfl, m1, m2, m3, m4⟩ := n
  refine ⟨l, rfl, m1, m2, m3, fun j p q hj z => ?_⟩
  rcases set_get hj with ⟨rfl, _, _⟩ | ⟨h, hj⟩
  · rw [List.getElem?_set_self (by omega)] at z
    exact ne (Option.some.inj (Option.some.inj z)).symm
  · rw [List.getElem?_set_ne (Ne.symm h)] at z
    exact m4 j p q hj z
end
section
variable {S : Sig} {X : Cx} {δ : Sto} {pos : Pos} {D : AEnds}
theorem DoS.parF {e1 e2 : Expr} {x y : Str} {px py pt : Pos} {kt k2 : Nat} {pt2 : Pos} (i j : Nat) (nd : X.N.Nodup) (hc : X.calm = true) (ha : AF S X e1 δ fun δ1 o1 => ∃ ds, o1 = .lst ds ∧ AF S X e2 δ1 fun δ2 o2 => D.nx ((δ2.set i (some (.own none (.lst ds)))).set j (some (.own none o2)))) (hi : X.N[i]? = some x := by rfl) (hj : X.N[j]? = some y := by rfl) (hij : i ≠ j := by decide)
    (hx : X.env.scope.names.lookup x = some .local := by rfl) (hy : X.env.scope.names.lookup y = some .local := by rfl) (hst : starEach [e1, e2] X.env = (false, eval e1 X.env) :: starEach [e2] X.env := by rfl) (hst2 : starEach [e2] X.env = (false, eval e2 X.env) :: starEach [] X.env := by rfl)
    (hw : swappedStores [.Tuple [.Name x px, .Name y py] kt pt] (.Tuple [e1, e2] k2 pt2) X.env = pure (some [x, y]) := by rfl) (hs : swapsWithSole [.Tuple [.Name x px, .Name y py] kt pt] (.Tuple [e1, e2] k2 pt2) pos.line X.env = pure false := by rfl) : DoS S X (.Assign [.Tuple [.Name x px, .Name y py] kt pt] (.Tuple [e1, e2] k2 pt2) pos) δ D := fun G σ B H R pins s I =>
  (WS.of (ps_par hc nd hi hj hij hx hy (pa_cons (pw_e e1) (pa_cons (pw_e e2) pa_nil hst2) hst) hw hs) ((ha G σ B H R).imp fun v H1 ⟨B1, δ1, o1, c1, R1, n1, ds, eo, h2⟩ => by
    subst eo
    obtain ⟨l, rfl, _⟩ := id n1.ex
    refine (h2 _ σ B1 H1 (R1.hold n1)).imp fun u H2 ⟨B2, δ2, o2, c2, R2, n2, q⟩ => ?_
    obtain ⟨R3, n3, n4, ne⟩ := two_new R1 n1 R2 n2
    have li := slot_lt I R3 hi
    have lj := slot_lt I R3 hj
    exact ⟨_, _, rfl, B2, _, (R3.putF li n3).putF (by simpa using lj) (n4.put ne li R3.len), q⟩)) pins s I
end
/-- two own parameters, in the slots i and j -/
theorem fin2 {avs : List AV} {kk : List OV → AV → Prop} {δ : Sto} {r : AV} {o u o0 u0 : OV} (i j : Nat) (ho : ownO avs = [o0, u0]) (hi : δ[i]? = some (some (AV.own (some 0) o))) (hj : δ[j]? = some (some (AV.own (some 1) u))) (h : kk [o, u] r) : (Fin avs kk).rt δ r :=
  ⟨[o, u], fun m t z => by
    match m, z with
    | 0, z => simp at z; subst z; exact ⟨i, hi⟩
    | 1, z => simp at z; subst z; exact ⟨j, hj⟩
    | m + 2, z => simp at z, by rw [ho] <;> rfl, h⟩
end AX
namespace AX
open PySem PySem.Spec PyProof.Rows L2 Evl
open AutoSeq1 (wpAny_loadPart')
/-! ## t * 1 -/
theorem tuple_mul1 (l : Addr) (items : Array Value) (n : Nat) (dd : Option Addr) (sl : Array (Option Value)) (u : Tok) (c1 : (items.isEmpty || (1 : Int) == 1) = true) :
    Meets (Builtin.«tuple.__mul__» ⟨[.ref l, .int 1 u], []⟩) (fun _ R s => s.heap.get? l = some { cls := .type "tuple", dict := dd, data := .seq items n, slots := sl } ∧ R (.ok (.ret (.ref l))) s) :=
  .of_wp fun prog w A R s h => by
    obtain ⟨hp, g, d, tk, os⟩ := s; obtain ⟨hl, h⟩ := h
    have f1 := AutoSeq1.idx_int
    wp_walk using wpAny_loadPart' hl
    exact ⟨_, rfl, h⟩
def rRep1 (K : PySem.W.Frag) : R2 := fun x y H Q => ∃ l xs, x = .ref l ∧ y = .int 1 ∧ SqT K H l xs ∧ Q (.ref l) H
theorem op_rep1 {X : Cx} : OpR X (binaryOp .Mult) (rRep1 X.K) := by
  intro pins s σ H x y v u Q I rx ry ⟨l, xs, e1, e2, hT, q⟩
  subst e1 e2; cases rx
  obtain ⟨t, rfl⟩ := ry
  obtain ⟨its, r, ⟨⟨cls, dd, data, sl⟩, ho, hc, n, hd⟩, hs⟩ := I.tuple hT
  simp only at hc hd
  subst hc hd
  have c1 : (its.toArray.isEmpty || (1 : Int) == 1) = true := by simp
  refine wpAny_binaryOp_repeat_ref (T := "tuple") (U := "int") (by decide) ⟨_, ho, rfl⟩ (fun s' => typeIs_int s' 1 t) noFill_tuple_mul F.fills_int_mul F.slot_int_rmul repeat_tuple F.slot_int_index.lookup (call_meets F.slot_int_rmul (typeIs_int s 1 t) F.entry_int_rmul (F.args_int_rmul_2 _ _) (int_rmul_tuple 1 t l its.toArray n dd sl) ⟨ho, rfl, ⟨_, ho, rfl⟩, ?_⟩)
  exact call_meets F.slot_tuple_mul ⟨_, ho, rfl⟩ F.entry_tuple_mul (F.args_tuple_mul_2 _ _) (tuple_mul1 l its.toArray n dd sl t c1) ⟨ho, ⟨.ref l, H, I, rfl, q⟩⟩
theorem p2_rep1 {S : Sig} {xs : List DV} : P2 S (rRep1 S.K) (.tup xs) (.int 1) (.tup xs) := fun B H v w Q e r1 r2 q => by
  obtain ⟨a, us, rfl, hx, hr⟩ := r1.tup_inv
  exact ⟨a, us, rfl, r2.int_inv, ex_t e hx, q _ (.tup hx hr)⟩
end AX
namespace AX
open PySem PySem.Spec PyProof.Rows L2 Evl
/-! ## displays of whole numbers, nested, at one stroke -/
mutual
def cst : Expr → Option DV
  | .Constant (.int i) _ _ => some (.int i)
  | .UnaryOp .USub (.Constant (.int i) _ _) _ => some (.int (-i))
  | .Tuple es _ _ => match cstL es with
    | some ds => if ds.length ≤ 1000 then some (.tup ds) else none
    | none => none
  | .List es _ => match cstL es with
    | some ds => if ds.length ≤ 1000 then some (.lst ds) else none
    | none => none
  | _ => none
def cstL : List Expr → Option (List DV)
  | [] => some []
  | e :: es => match cst e with
    | some d => match cstL es with
      | some ds => some (d :: ds)
      | none => none
    | none => none
end
theorem cst_star : ∀ {e : Expr} {d : DV}, cst e = some d → ∀ (es : List Expr) (env : Env), starEach (e :: es) env = (false, eval e env) :: starEach es env
  | .Constant (.int i) _ _, _, _, _, _ => rfl
  | .UnaryOp .USub (.Constant (.int i) _ _) _, _, _, _, _ => rfl
  | .Tuple es _ _, _, _, _, _ => rfl
  | .List es _, _, _, _, _ => rfl
  | e, d, h, es, env => by
    unfold cst at h
    split at h <;> first | rfl | cases h
mutual
theorem AE.cst {S : Sig} {X : Cx} : ∀ {e : Expr} {d : DV} {δ : Sto} {k : Sto → DV → Prop}, AX.cst e = some d → k δ d → AE S X e δ k
  | e, d, δ, k, h, hk => by
    cases e with
    | Constant c _ _ =>
      cases c with
      | int i => unfold AX.cst at h; cases h; exact AE.int hk
      | _ => unfold AX.cst at h; cases h
    | UnaryOp op e' _ =>
      unfold AX.cst at h
      split at h
      · rename_i q; cases q
      · rename_i q; cases q; cases h; exact AE.un un_neg (AE.int ⟨_, p1_neg, hk⟩)
      · rename_i q; cases q
      · rename_i q; cases q
      · cases h
    | Tuple es _ _ =>
      unfold AX.cst at h
      split at h
      · rename_i ds hd
        split at h
        · rename_i hl; cases h; exact AE.tup (AA.cst hd ⟨_, rfl, by omega, hk⟩)
        · cases h
      · cases h
    | List es _ =>
      unfold AX.cst at h
      split at h
      · rename_i ds hd
        split at h
        · rename_i hl; cases h; exact AE.lst (AA.cst hd ⟨_, rfl, by omega, hk⟩)
        · cases h
      · cases h
    | _ => unfold AX.cst at h; cases h
theorem AA.cst {S : Sig} {X : Cx} : ∀ {es : List Expr} {ds : List DV} {δ : Sto} {ka : Sto → List Arg → Prop}, AX.cstL es = some ds → ka δ (ds.map Arg.d) → AA S X es δ ka
  | [], ds, δ, ka, h, hk => by unfold AX.cstL at h; cases h; exact AA.nil hk
  | e :: es, ds, δ, ka, h, hk => by
    unfold AX.cstL at h
    split at h
    · rename_i d hd
      split at h
      · rename_i ds' hds
        cases h
        exact AA.cons (AE.cst hd (AA.cst hds hk)) (cst_star hd es X.env)
      · cases h
    · cases h
end
end AX
namespace AX
open PySem PySem.Spec PyProof.Rows L2 Evl
/-- // by a positive divisor, the dividend below 2 ^ 13500 -/
def CDivX (i j : Int) : Prop := 0 < j ∧ i.natAbs.log2 < 13500
theorem noPyl {x y : Int} (h : x.natAbs.log2 < 13500) : Builtin.divisionGoesByPylong x y = false := by
  have key : ∀ n : Int, (if n == 0 then 0 else n.natAbs.log2 / 30 + 1) = if n = 0 then 0 else n.natAbs.log2 / 30 + 1 := fun n => by simp
  show (decide ((if y == 0 then 0 else y.natAbs.log2 / 30 + 1) > 300) && decide ((if x == 0 then 0 else x.natAbs.log2 / 30 + 1) > (if y == 0 then 0 else y.natAbs.log2 / 30 + 1) + 150)) = false
  rw [key, key, Bool.and_eq_false_iff]
  by_cases q : (if y = 0 then 0 else y.natAbs.log2 / 30 + 1) > 300
  · refine .inr (decide_eq_false ?_)
    split <;> omega
  · exact .inl (decide_eq_false q)
theorem op_fdivX {X : Cx} : OpR X (binaryOp .FloorDiv) (rI CDivX fun i j => .int (i / j)) := opI fun i j _ _ _ _ _ hc q => by
  have h1 : (0 : Int) < j := hc.1
  exact floordiv_int (by omega) (by rw [Int.fdiv_eq_ediv_of_nonneg i (by omega)]; exact q) (.inl (noPyl hc.2))
theorem wide_divX {i j : Int} {a : Nat} (h : 0 < j) (ha : i.natAbs < 2 ^ a) (h0 : 0 < a) (h9 : a ≤ 13500) : CDivX i j := ⟨h, Nat.lt_of_lt_of_le (PySem.Flt.log2_lt_of h0 ha) h9⟩
end AX
namespace AX
open PySem PySem.Spec PyProof.Rows L2 Evl
open AutoSeq1 (wpAny_loadPart')
/-! ## t * n for any n from 0, xs * n, x not in ns, an own list that becomes data -/
theorem tuple_mul0 (l : Addr) (items : Array Value) (n : Nat) (dd : Option Addr) (sl : Array (Option Value)) (u : Tok) (c1 : (items.isEmpty || (0 : Int) == 1) = false) :
    Meets (Builtin.«tuple.__mul__» ⟨[.ref l, .int 0 u], []⟩) (fun _ R s => s.heap.get? l = some { cls := .type "tuple", dict := dd, data := .seq items n, slots := sl } ∧ R (.ok (.ret (.ref s.heap.objs.size))) { s with heap := s.heap.push { cls := Value.type "tuple", data := Data.seq #[] }, toks := s.toks }) :=
  .of_wp fun prog w A R s h => by
    obtain ⟨hp, g, d, tk, os⟩ := s; obtain ⟨hl, h⟩ := h
    have f1 := AutoSeq1.idx_int
    wp_walk using wpAny_loadPart' hl
    refine wpAny_ite_false (decide_eq_false (by rw [c1]; exact Bool.false_ne_true)) ?_
    wp_walk using wpAny_loadPart' hl
    exact ⟨_, rfl, h⟩
def rRep0 (K : PySem.W.Frag) : R2 := fun x y H Q => ∃ l xs, x = .ref l ∧ y = .int 0 ∧ SqT K H l xs ∧ xs ≠ [] ∧ ∀ p, H p = none → Q (.ref p) (upd H p (.tup []))
section
variable {X : Cx}
theorem op_rep0 : OpR X (binaryOp .Mult) (rRep0 X.K) := by
  intro pins s σ H x y v u Q I rx ry ⟨l, xs, e1, e2, hT, hne, q⟩
  subst e1 e2; cases rx
  obtain ⟨t, rfl⟩ := ry
  obtain ⟨its, r, ⟨⟨cls, dd, data, sl⟩, ho, hc, n, hd⟩, hs⟩ := I.tuple hT
  simp only at hc hd
  subst hc hd
  have hi : its.toArray.isEmpty = false := by
    cases its with
    | nil => exact absurd (List.eq_nil_of_length_eq_zero r.length) hne
    | cons a b => rfl
  have c1 : (its.toArray.isEmpty || (0 : Int) == 1) = false := by rw [hi]; rfl
  refine wpAny_binaryOp_repeat_ref (T := "tuple") (U := "int") (by decide) ⟨_, ho, rfl⟩ (fun s' => typeIs_int s' 0 t) noFill_tuple_mul F.fills_int_mul F.slot_int_rmul repeat_tuple F.slot_int_index.lookup (call_meets F.slot_int_rmul (typeIs_int s 0 t) F.entry_int_rmul (F.args_int_rmul_2 _ _) (int_rmul_tuple 0 t l its.toArray n dd sl) ⟨ho, rfl, ⟨_, ho, rfl⟩, ?_⟩)
  refine call_meets F.slot_tuple_mul ⟨_, ho, rfl⟩ F.entry_tuple_mul (F.args_tuple_mul_2 _ _) (tuple_mul0 l its.toArray n dd sl t c1) ⟨ho, ?_⟩
  refine ⟨.ref s.heap.objs.size, _, I.laid (t' := s.toks) (o := .tup []) (fun b ob q => Heap.get?_push_of_some _ q) (Nat.le_refl _) ?_, rfl, q _ (I.hok.fresh (Nat.le_refl _))⟩
  exact ⟨by rw [sizeLine_eq]; simp, _, .nil, IsTup.new _ _⟩
def rRepZ (K : PySem.W.Frag) : R2 := fun x y H Q => rRepT K x y H Q ∨ rRep1 K x y H Q ∨ rRep0 K x y H Q
theorem op_repZ : OpR X (binaryOp .Mult) (rRepZ X.K) := fun pins s σ H x y v u Q I rx ry h => by
  rcases h with h | h | h
  · exact op_repT pins s σ H x y v u Q I rx ry h
  · exact op_rep1 pins s σ H x y v u Q I rx ry h
  · exact op_rep0 pins s σ H x y v u Q I rx ry h
end
section
variable {S : Sig} {X : Cx} {δ : Sto} {D : AEnds}
theorem p2n_repZ {xs : List DV} {n : Nat} (h2 : n ≤ 1000) (hne : xs ≠ []) (hz : xs.length ≤ 1000) : P2N S (rRepZ S.K) (.tup xs) (.int n) (.tup (List.replicate n xs).flatten) := fun G σ B H δ v w Q R r1 r2 q => by
  by_cases e2 : 2 ≤ n
  · exact .inl (p2n_repT (n := (n : Int)) (by omega) (by omega) hne hz G σ B H δ v w Q R r1 r2 q)
  · obtain ⟨a, us, rfl, hx, hr⟩ := r1.tup_inv
    by_cases e1 : n = 1
    · subst e1
      refine .inr (.inl ⟨a, us, rfl, r2.int_inv, ex_t R.ex hx, q _ _ _ (Ex.refl B) R ?_⟩)
      have : (List.replicate 1 xs).flatten = xs := by simp
      rw [this]; exact .tup hx hr
    · have e0 : n = 0 := by omega
      subst e0
      refine .inr (.inr ⟨a, us, rfl, r2.int_inv, ex_t R.ex hx, fun z => hne (List.eq_nil_of_length_eq_zero (by rw [← hr.length, z]; rfl)), fun p hp => ?_⟩)
      exact q _ _ _ (Ex.new (fresh_back R.ex hp)) (R.laid hp (fun _ z => by cases z)) (.tup (st_of upd_same) .nil)
theorem p2f_rep {xs : List DV} {n : Nat} (hz : xs.length * n ≤ 100000) (hn : n ≤ 100000) : P2F S rRep (.lst xs) (.int n) (.lst (List.replicate n xs).flatten) := fun G σ B H δ v w Q R r1 r2 q => by
  obtain ⟨a, us, rfl, hx, hr⟩ := r1.lst_inv
  exact ⟨a, n, us, rfl, r2.int_inv, R.ex _ _ hx, by omega, by omega, by rw [hr.length, sizeLine_eq]; simp; omega, fun p hp => q _ _ (R.fresh hp) (New.lst R hp (by rw [Int.toNat_natCast]; exact rep_rep hr n))⟩
theorem py_mem : ∀ (ns : List Int) (m : Int), ((DV.pyL (ns.map DV.int)).any fun z => PyData.eqv z (.int m)) = decide (m ∈ ns)
  | [], m => by simp [DV.pyL]
  | n :: ns, m => by
    have ih := py_mem ns m
    show (PyData.eqv (.int n) (.int m) || (DV.pyL (ns.map DV.int)).any _) = _
    rw [ih]
    have : PyData.eqv (.int n) (.int m) = decide (n = m) := by
      show (n == m) = decide (n = m)
      by_cases h : n = m <;> simp [h]
    rw [this]
    by_cases h : n = m
    · subst h; simp
    · simp [h, Ne.symm h]
theorem plain_int (ns : List Int) : DV.plainL (ns.map DV.int) = true := by
  induction ns with
  | nil => rfl
  | cons n ns ih => show (true && DV.plainL _) = true; rw [ih]; rfl
theorem p2_notIn {ns : List Int} {m : Int} (hs : SeqAt.shaped (.list (DV.pyL (ns.map DV.int))) = true) : P2 S (rNotInD S.K) (.int m) (.lst (ns.map DV.int)) (.bl (!decide (m ∈ ns))) := fun B H v w Q e r1 r2 q => by
  refine ⟨_, _, r1.dp e rfl, r2.dp (d := .lst (ns.map DV.int)) e (plain_int ns), rfl, hs, ?_⟩
  have := py_mem ns m
  show Q (.bl (!(DV.pyL (ns.map DV.int)).any fun z => PyData.eqv z (.int m))) H
  rw [this]; exact q _ (.bl _)
/-- an own list becomes data -/
theorem Do.frz (i : Nat) {ds : List DV} {st : List Stmt} (hv : δ[i]? = some (some (.own none (.lst ds)))) (h : Do S X st (δ.set i (some (.imm (.lst ds)))) D) : Do S X st δ D := fun G σ B H R => by
  obtain ⟨l, e1, ⟨vs, g2, g3⟩, g4, g5⟩ := R.sl i _ hv
  have hil : i < δ.length := (List.getElem?_eq_some_iff.mp hv).1
  have R0 : Rst S G (σ.set i none) B H (δ.set i none) := R.wipe [i]
  have nw : New S G (σ.set i none) B H (δ.set i none) (.ref l) (.lst ds) := ⟨l, rfl, ⟨vs, g2, g3⟩, g4, g5, fun j p u hj z => by
    by_cases e : i = j
    · subst e
      rw [List.getElem?_set_self hil] at hj; cases hj
    · rw [List.getElem?_set_ne e] at hj z
      exact e (R.sep i j l none (.lst ds) p u hv hj e1 z)⟩
  obtain ⟨B', ex, R1, rp⟩ := New.freeze R0 nw
  have R2 := R1.put (i := i) (by simpa using hil) rp
  rw [List.set_set, List.set_set] at R2
  have es : σ.set i (some (V.ref l)) = σ := by
    apply List.ext_getElem?
    intro j
    by_cases e : i = j
    · subst e
      rw [List.getElem?_set_self (by rw [R.len]; exact hil), e1]
    · rw [List.getElem?_set_ne e]
  rw [es] at R2
  intro pins s I
  have := h G σ B' H R2 pins s I
  exact this
end
end AX
namespace AX
open PySem PySem.Spec PyProof.Rows L2 Evl
/-! ## x, y = data, a new thing -/
theorem New.putD {S : Sig} {G : Gh} {σ : L2.St} {B H : Hp} {δ : Sto} {i : Nat} {v w : V} {o : OV} {d : DV} (n : New S G σ B H δ v o) (hl : σ.length = δ.length) : New S G (σ.set i (some w)) B H (δ.set i (some (.imm d))) v o := by
  obtain ⟨l, rfl, m1, m2, m3, m4⟩ := n
  refine ⟨l, rfl, m1, m2, m3, fun j p q hj z => ?_⟩
  rcases set_get hj with ⟨_, e, _⟩ | ⟨h, hj⟩
  · cases e
  · rw [List.getElem?_set_ne (Ne.symm h)] at z
    exact m4 j p q hj z
theorem DoS.parDF {S : Sig} {X : Cx} {δ : Sto} {pos : Pos} {D : AEnds} {e1 e2 : Expr} {x y : Str} {px py pt : Pos} {kt k2 : Nat} {pt2 : Pos} (i j : Nat) (nd : X.N.Nodup) (hc : X.calm = true) (ha : AE S X e1 δ fun δ1 d => AF S X e2 δ1 fun δ2 o2 => D.nx ((δ2.set i (some (.imm d))).set j (some (.own none o2)))) (hi : X.N[i]? = some x := by rfl) (hj : X.N[j]? = some y := by rfl) (hij : i ≠ j := by decide)
    (hx : X.env.scope.names.lookup x = some .local := by rfl) (hy : X.env.scope.names.lookup y = some .local := by rfl) (hst : starEach [e1, e2] X.env = (false, eval e1 X.env) :: starEach [e2] X.env := by rfl) (hst2 : starEach [e2] X.env = (false, eval e2 X.env) :: starEach [] X.env := by rfl)
    (hw : swappedStores [.Tuple [.Name x px, .Name y py] kt pt] (.Tuple [e1, e2] k2 pt2) X.env = pure (some [x, y]) := by rfl) (hs : swapsWithSole [.Tuple [.Name x px, .Name y py] kt pt] (.Tuple [e1, e2] k2 pt2) pos.line X.env = pure false := by rfl) : DoS S X (.Assign [.Tuple [.Name x px, .Name y py] kt pt] (.Tuple [e1, e2] k2 pt2) pos) δ D := fun G σ B H R pins s I =>
  (WS.of (ps_par hc nd hi hj hij hx hy (pa_cons (pw_e e1) (pa_cons (pw_e e2) pa_nil hst2) hst) hw hs) ((ha G σ B H R).imp fun v H1 ⟨B1, δ1, d, c1, R1, r1, h2⟩ => (h2 G σ B1 H1 R1).imp fun u H2 ⟨B2, δ2, o2, c2, R2, n2, q⟩ => by
    have li := slot_lt I R2 hi
    have lj := slot_lt I R2 hj
    exact ⟨_, _, rfl, B2, _, (R2.put li (r1.mono c2)).putF (by simpa using lj) (n2.putD R2.len), q⟩)) pins s I
end AX
namespace AX
open PySem PySem.Spec PyProof.Rows L2 Evl
/-! ## f(), its answer data -/
theorem AE.call0 {S : Sig} {X : Cx} {δ : Sto} {pos p : Pos} {k : Sto → DV → Prop} {W : AW1} {lv : Nat} {x : Str} (C : Can X.prog X.w X.mg X.base S lv x [] W) (hr : Room lv X.A) (hK : X.K = S.K) (ha : W [] fun os r => ∃ d, r = .imm d ∧ k δ d) (hg : Gl X x := by rfl)
    (hdb : (x == ("__debug__" : Str)) = false := by decide) : AE S X (.Call (.Name x p) [] [] pos) δ k := fun G σ B H R => by
  obtain ⟨f, fd, F, hm, hk, hb⟩ := C.ex
  rw [← hK] at F hk hb
  refine WE.of (pe_call0 (CX := CX0) F hr hg hm hk hb .nil pass0 hdb) ?_
  exact sp_of (ps := []) R .nil (OkA.d rfl rfl) ha (fun v B' H' os r e2 R2 hr hk => by
    obtain ⟨d, rfl, hk⟩ := hk
    exact ⟨B', _, d, e2, R2, hr, hk⟩) E0
end AX
/-! Operators of own classes at the hand layer's level: a op b, x in o, len(o), bool(o), o == p by own methods. -/
namespace OWN
open PySem PySem.Spec PyProof.Rows L2
section
variable {X : Cx} {CX : CXT} {k : Nat} {C f a b dx : Addr} {fs : List (Str × V)} {fd : FuncData} {ps : List Str} {sp : Sp} {E : XK} {pins : List (Addr × Obj)} {σ : L2.St} {H : Hp} {s : Shared}
theorem fr (I : Inv X pins σ H s) : ∃ m, Fr X.base X.env.locals s.heap m := by
  obtain ⟨m, h1, _⟩ := I.loc
  exact ⟨m, h1, I.bk, Nat.le_trans I.ok.bsz I.ok.above⟩
theorem inst (I : Inv X pins σ H s) (e : H a = some (.ins C dx fs)) : ∃ ox od, PySem.W.InstAt s.heap a ox C od := by
  obtain ⟨mA, O, _⟩ := ins_get I.hok e
  obtain ⟨od, J, _⟩ := O.look
  exact ⟨_, _, J⟩
theorem back {Q : VK} {v : Value} {s' : Shared} (h : EP X pins σ Q v s') : PySem.W.CmpBack (EP X pins σ Q) v s' := by
  obtain ⟨x, H', I, r, q⟩ := h
  cases v with
  | notImplemented =>
    cases x with
    | non => cases (show Value.notImplemented = Value.none from r)
    | bl b => cases (show Value.notImplemented = Value.bool b from r)
    | int i => obtain ⟨t, z⟩ := (show ∃ t, Value.notImplemented = Value.int i t from r); cases z
    | str z => obtain ⟨t, z⟩ := (show ∃ t, Value.notImplemented = Value.str z t from r); cases z
    | byt z => obtain ⟨t, z⟩ := (show ∃ t, Value.notImplemented = Value.bytes z t from r); cases z
    | flt z => obtain ⟨t, z⟩ := (show ∃ t, Value.notImplemented = Value.float z t from r); cases z
    | ref a => cases (show Value.notImplemented = Value.ref a from r)
    | ty n => cases (show Value.notImplemented = Value.type n from r)
  | _ => exact ⟨x, H', I, r, q⟩
/-- a def called one deeper, as a built-in calls it -/
theorem call_in1 {Q : VK} {us : List Value} {vs : List V} {E' : Value → Shared → Prop} (F : FnOk X.prog X.w X.K X.mg X.base CX k f fd ps sp) (hr : Room (k + 1) X.A) (hb : Binds X.K fd ps []) (hx : Passes CX X.nox E) (I : Inv X pins σ H s) (r : Vals vs us) (h : sp vs H Q E) :
    wpAny (model X.prog X.w) X.A.in1 (call (.ref f) us) (EP X pins σ Q) E' s := by
  have hl : (us ++ []).length = ps.length := by rw [List.append_nil, ← r.length]; exact F.len _ _ _ _ h
  refine wpAny_call (codeAny_mono (F.run X.A.in1 X.stack s H ⟨us, []⟩ (us ++ []) vs Q E hr.in1 I.env0.in1 (hb _ us I.kIn hl) (by rw [List.append_nil]; exact r) h) fun r s' hq => ?_)
  cases r with
  | error er => exact False.elim (hx pins σ H s er s' (I.wish _) hq)
  | ok fl =>
    cases fl with
    | ret u => exact I.after hq
    | next => exact False.elim hq
    | brk => exact False.elim hq
    | cont => exact False.elim hq
def rOwn (C : Addr) (sp : Sp) (E : XK) : R2 := fun x y H Q => ∃ a b dx dy fs gs, x = .ref a ∧ y = .ref b ∧ H a = some (.ins C dx fs) ∧ H b = some (.ins C dy gs) ∧ sp [x, y] H Q E
theorem op_own {op : Operator} (hs : PySem.W.findIn X.K (.ref C) (PySem.dunder op.info.2) = some (some (.ref f))) (hf : PySem.W.isFn X.K (.ref f) = true) (hc : PySem.W.selfFirst X.K C = true) (F : FnOk X.prog X.w X.K X.mg X.base CX k f fd ps sp) (hr : Room k X.A) (hb : Binds X.K fd ps []) (hx : Passes CX X E) :
    OpR X (binaryOp op) (rOwn C sp E) := by
  intro pins s σ H x y v u Q I rx ry ⟨a, b, dx, dy, fs, gs, e1, e2, ha, hb2, h⟩
  subst e1 e2
  cases rx
  cases ry
  obtain ⟨m, Fm⟩ := fr I
  obtain ⟨ox, od, J⟩ := inst I ha
  obtain ⟨oy, od2, J2⟩ := inst I hb2
  refine PySem.W.binop_K Fm I.ok.mod.kin J J2.type hc hs hf (thn (run_fn F hr hb .nil hx I (.cons (a := V.ref a) rfl (.cons (a := V.ref b) rfl .nil)) h) fun v s' q => back q)
def rIn (C : Addr) (sp : Sp) (E : XK) : R2 := fun x y H Q => ∃ a dx fs, y = .ref a ∧ H a = some (.ins C dx fs) ∧ sp [y, x] H (fun r H' => ∃ b, r = .bl b ∧ Q (.bl b) H') E
theorem op_in (hs : PySem.W.findIn X.K (.ref C) "__contains__" = some (some (.ref f))) (hf : PySem.W.isFn X.K (.ref f) = true) (F : FnOk X.prog X.w X.K X.mg X.base CX k f fd ps sp) (hr : Room k X.A) (hb : Binds X.K fd ps []) (hx : Passes CX X E) :
    OpR X (compareOp .In) (rIn C sp E) := by
  intro pins s σ H x y v u Q I rx ry ⟨a, dx, fs, e2, ha, h⟩
  subst e2
  cases ry
  obtain ⟨m, Fm⟩ := fr I
  obtain ⟨ox, od, J⟩ := inst I ha
  refine PySem.W.in_K Fm I.ok.mod.kin J hs hf (thn (run_fn F hr hb .nil hx I (.cons (a := V.ref a) rfl (.cons (a := x) rx .nil)) h) fun r s' q => ?_)
  obtain ⟨z, H', I', rz, q⟩ := q
  obtain ⟨bb, e, q⟩ := q
  subst e
  obtain rfl : r = Value.bool bb := rz
  exact wpAny_truthy_bool ⟨.bl bb, H', I', rfl, q⟩
def rLen (C : Addr) (sp : Sp) (E : XK) : List V → Hp → VK → Prop := fun xs H Q => ∃ a dx fs, xs = [.ref a] ∧ H a = some (.ins C dx fs) ∧ sp [.ref a] H (fun r H' => ∃ n : Nat, n ≤ 1000000 ∧ r = .int n ∧ Q (.int n) H') E
theorem call_len (hs : PySem.W.findIn X.K (.ref C) "__len__" = some (some (.ref f))) (hf : PySem.W.isFn X.K (.ref f) = true) (F : FnOk X.prog X.w X.K X.mg X.base CX k f fd ps sp) (hr : Room (k + 1) X.A) (hb : Binds X.K fd ps []) (hx : Passes CX X.nox E) :
    CallR X (.builtin "len") (rLen C sp E) := by
  intro pins s σ H xs us Q I rx ⟨a, dx, fs, e, ha, h⟩
  subst e
  cases rx with
  | cons r1 r2 =>
    cases r1
    cases r2
    obtain ⟨m, Fm⟩ := fr I
    obtain ⟨ox, od, J⟩ := inst I ha
    refine PySem.W.len_K Fm I.ok.mod.kin J hs hf (thn (call_in1 F hr hb hx I (.cons (a := V.ref a) rfl .nil) h) fun r s' q => ?_)
    obtain ⟨z, H', I', rz, n, hn, rfl, q⟩ := q
    obtain ⟨t, rfl⟩ := rz
    exact ⟨⟨by omega, by omega⟩, .int n, H', I'.tok _, ⟨_, rfl⟩, q⟩
theorem op_eq (hs : PySem.W.findIn X.K (.ref C) "__eq__" = some (some (.ref f))) (hf : PySem.W.isFn X.K (.ref f) = true) (hn : PySem.W.notFirst X.K C (.ref C) = true) (F : FnOk X.prog X.w X.K X.mg X.base CX k f fd ps sp) (hr : Room k X.A) (hb : Binds X.K fd ps []) (hx : Passes CX X E) :
    OpR X (compareOp .Eq) (rOwn C sp E) := by
  intro pins s σ H x y v u Q I rx ry ⟨a, b, dx, dy, fs, gs, e1, e2, ha, hb2, h⟩
  subst e1 e2
  cases rx
  cases ry
  obtain ⟨m, Fm⟩ := fr I
  obtain ⟨ox, od, J⟩ := inst I ha
  obtain ⟨oy, od2, J2⟩ := inst I hb2
  exact PySem.W.cmp_K (op := .Eq) hr.units0 Fm I.ok.mod.kin J J2.type hn hs hf (thn (run_fn F hr hb .nil hx I (.cons (a := V.ref a) rfl (.cons (a := V.ref b) rfl .nil)) h) fun v s' q => back q)
end
end OWN
namespace AX
open PySem PySem.Spec PyProof.Rows L2 Evl
/-! ## instances of own classes: known ones (data), and one that a frame owns while it is made -/
def fput (f : Str) (d : DV) : List (Str × DV) → List (Str × DV)
  | [] => [(f, d)]
  | (g, x) :: r => if g = f then (g, d) :: r else (g, x) :: fput f d r
section
variable {S : Sig} {G : Gh} {σ : L2.St} {B B' H H' : Hp} {δ : Sto}
theorem FRep.put {v : V} {d : DV} {f : Str} (h : Rep S B v d) : ∀ {vs : List (Str × V)} {fs : List (Str × DV)}, FRep S B vs fs → FRep S B (putF f v vs) (fput f d fs)
  | _, _, .nil => .cons (a := (f, v)) (b := (f, d)) ⟨rfl, h⟩ .nil
  | (g, x) :: vs, (g', y) :: fs, .cons q r => by
    have e : g = g' := q.1
    subst e
    unfold putF fput
    by_cases hg : g = f
    · rw [if_pos hg, if_pos hg]; exact .cons (a := (g, v)) (b := (g, d)) ⟨rfl, h⟩ r
    · rw [if_neg hg, if_neg hg]; exact .cons q (FRep.put h r)
theorem FRep.len {vs : List (Str × V)} {fs : List (Str × DV)} (r : FRep S B vs fs) : vs.length = fs.length := Paired.length r
theorem FRep.look {f : Str} {d : DV} : ∀ {vs : List (Str × V)} {fs : List (Str × DV)}, FRep S B vs fs → fs.lookup f = some d → ∃ v, vs.lookup f = some v ∧ Rep S B v d
  | _, _, .nil, h => by simp at h
  | (g, x) :: vs, (g', y) :: fs, .cons q r, h => by
    have e : g = g' := q.1
    subst e
    rw [List.lookup_cons] at h ⊢
    split at h
    · rename_i z; cases h; exact ⟨x, rfl, q.2⟩
    · rename_i z
      obtain ⟨v, h1, h2⟩ := FRep.look r h
      exact ⟨v, h1, h2⟩
theorem FRep.names : ∀ {vs : List (Str × V)} {fs : List (Str × DV)}, FRep S B vs fs → vs.map (·.1) = fs.map (·.1)
  | _, _, .nil => rfl
  | (g, x) :: vs, (g', y) :: fs, .cons q r => by
    have e : g = g' := q.1
    rw [List.map_cons, List.map_cons, FRep.names r]
    show g :: _ = g' :: _
    rw [e]
theorem FRep.vals : ∀ {vs : List (Str × V)} {fs : List (Str × DV)}, FRep S B vs fs → RepL S B (vs.map (·.2)) (fs.map (·.2))
  | _, _, .nil => .nil
  | (g, x) :: vs, (g', y) :: fs, .cons q r => .cons q.2 (FRep.vals r)
theorem Rep.ob_inv {v : V} {t : Nat} {ds : List DV} (h : Rep S B v (.ob t ds)) : ∃ a dx fs, v = .ref a ∧ B a = some (.ins (S.cls t) dx fs) ∧ fs.map (·.1) = S.flds t ∧ RepL S B (fs.map (·.2)) ds := by
  cases h with
  | ob h n r => exact ⟨_, _, _, rfl, h, n, r⟩
theorem ob_look {f : Str} {x : DV} : ∀ {fs : List (Str × V)} {ns : List Str} {ds : List DV}, fs.map (·.1) = ns → RepL S B (fs.map (·.2)) ds → (ns.zip ds).lookup f = some x → ∃ v, fs.lookup f = some v ∧ Rep S B v x
  | [], ns, ds, e, r, h => by
    have : ns = [] := e.symm
    subst this
    simp at h
  | (g, v) :: fs, ns, ds, e, r, h => by
    cases r with
    | cons q r =>
      have e : g :: fs.map (·.1) = ns := e
      subst e
      rw [List.zip_cons_cons, List.lookup_cons] at h
      rw [List.lookup_cons]
      split at h
      · rename_i z; cases h; exact ⟨v, rfl, q⟩
      · rename_i z
        obtain ⟨u, h1, h2⟩ := ob_look rfl r h
        exact ⟨u, h1, h2⟩
theorem ob_nolook {f : Str} : ∀ {fs : List (Str × V)} {ns : List Str}, fs.map (·.1) = ns → ns.contains f = false → fs.lookup f = none
  | [], _, _, _ => rfl
  | (g, v) :: fs, ns, e, h => by
    have e : g :: fs.map (·.1) = ns := e
    subst e
    rw [List.contains_cons, Bool.or_eq_false_iff] at h
    rw [List.lookup_cons, h.1]
    exact ob_nolook rfl h.2
/-- a new thing in a further slot -/
theorem Rst.push (R : Rst S G σ B H δ) {v : V} {o : OV} (n : New S G σ B H δ v o) : Rst S G (σ ++ [some v]) B H (δ ++ [some (.own none o)]) := by
  have R' : Rst S G (σ ++ [none]) B H (δ ++ [none]) := by
    refine ⟨R.exB, R.nt, R.ex, R.tab, R.keep, R.al, R.l0, R.fr, by simp [R.len], fun i av h => ?_, fun i j l p o p' o' a1 a2 a3 a4 => ?_⟩
    · have hi : i < δ.length := by
        apply Classical.byContradiction
        intro z
        rw [List.getElem?_append_right (by omega)] at h
        by_cases q : i - δ.length = 0
        · rw [q] at h; simp at h
        · rw [List.getElem?_eq_none (by simp; omega)] at h; cases h
      rw [List.getElem?_append_left hi] at h
      have q := R.sl i av h
      have hs : i < σ.length := by rw [R.len]; exact hi
      cases av with
      | imm d => obtain ⟨v, q1, q2⟩ := q; exact ⟨v, by rw [List.getElem?_append_left hs]; exact q1, q2⟩
      | own p o => obtain ⟨l', q1, q2, q3, q4⟩ := q; exact ⟨l', by rw [List.getElem?_append_left hs]; exact q1, q2, q3, q4⟩
    · have lt : ∀ {i : Nat} {av : AV}, (δ ++ [none])[i]? = some (some av) → i < δ.length := fun {i av} h => by
        apply Classical.byContradiction
        intro z
        rw [List.getElem?_append_right (by omega)] at h
        by_cases q : i - δ.length = 0
        · rw [q] at h; simp at h
        · rw [List.getElem?_eq_none (by simp; omega)] at h; cases h
      have l1 := lt a1
      have l2 := lt a2
      rw [List.getElem?_append_left l1] at a1
      rw [List.getElem?_append_left l2] at a2
      rw [List.getElem?_append_left (by rw [R.len]; exact l1)] at a3
      rw [List.getElem?_append_left (by rw [R.len]; exact l2)] at a4
      exact R.sep i j l p o p' o' a1 a2 a3 a4
  have n' : New S G (σ ++ [none]) B H (δ ++ [none]) v o := by
    obtain ⟨l, rfl, m1, m2, m3, m4⟩ := n
    refine ⟨l, rfl, m1, m2, m3, fun j p q hj z => ?_⟩
    by_cases hj' : j < δ.length
    · rw [List.getElem?_append_left hj'] at hj
      rw [List.getElem?_append_left (by rw [R.len]; exact hj')] at z
      exact m4 j p q hj z
    · rw [List.getElem?_append_right (by omega)] at hj
      by_cases q : j - δ.length = 0
      · rw [q] at hj; simp at hj
      · rw [List.getElem?_eq_none (by simp; omega)] at hj; cases hj
  have R2 := R'.putF (i := δ.length) (by simp) n'
  have e1 : (σ ++ [none]).set δ.length (some v) = σ ++ [some v] := by rw [← R.len, List.set_append_right _ _ (Nat.le_refl _)]; simp
  have e2 : (δ ++ [none]).set δ.length (some (AV.own none o)) = δ ++ [some (AV.own none o)] := by rw [List.set_append_right _ _ (Nat.le_refl _)]; simp
  rw [e1, e2] at R2
  exact R2
theorem Rst.pop {v : V} {o : OV} (R : Rst S G (σ ++ [some v]) B H (δ ++ [some (.own none o)])) : Rst S G σ B H δ ∧ New S G σ B H δ v o := by
  have hl : σ.length = δ.length := by have := R.len; simpa using this
  have gs : ∀ {i : Nat}, i < δ.length → (σ ++ [some v])[i]? = σ[i]? := fun h => List.getElem?_append_left (by omega)
  have gd : ∀ {i : Nat} {av : AV}, δ[i]? = some (some av) → i < δ.length ∧ (δ ++ [some (AV.own none o)])[i]? = some (some av) := fun {i av} h => by
    have hi := (List.getElem?_eq_some_iff.mp h).1
    exact ⟨hi, by rw [List.getElem?_append_left hi]; exact h⟩
  have top : (δ ++ [some (AV.own none o)])[δ.length]? = some (some (.own none o)) := by simp
  have tops : (σ ++ [some v])[δ.length]? = some (some v) := by rw [← hl]; simp
  refine ⟨⟨R.exB, R.nt, R.ex, R.tab, R.keep, R.al, R.l0, R.fr, hl, fun i av h => ?_, fun i j l p o p' o' a1 a2 a3 a4 => ?_⟩, ?_⟩
  · obtain ⟨hi, h⟩ := gd h
    have q := R.sl i av h
    cases av with
    | imm d => obtain ⟨v, q1, q2⟩ := q; rw [gs hi] at q1; exact ⟨v, q1, q2⟩
    | own p o => obtain ⟨l', q1, q2, q3, q4⟩ := q; rw [gs hi] at q1; exact ⟨l', q1, q2, q3, q4⟩
  · obtain ⟨h1, b1⟩ := gd a1
    obtain ⟨h2, b2⟩ := gd a2
    exact R.sep i j l p o p' o' b1 b2 (by rw [gs h1]; exact a3) (by rw [gs h2]; exact a4)
  · obtain ⟨l, q1, q2, q3, q4⟩ := R.sl _ _ top
    rw [tops] at q1
    cases q1
    refine ⟨l, rfl, q2, q3, q4, fun i p u hi z => ?_⟩
    obtain ⟨h1, b1⟩ := gd hi
    have := R.sep i δ.length l p u none o b1 top (by rw [gs h1]; exact z) tops
    omega
/-- a new instance becomes known -/
theorem New.freezeO (R : Rst S G σ B H δ) {v : V} {t : Nat} {fs : List (Str × DV)} (n : New S G σ B H δ v (.obj t fs)) (hf : fs.map (·.1) = S.flds t) : ∃ B', Ex B B' ∧ Rst S G σ B' H δ ∧ Rep S B' v (.ob t (fs.map (·.2))) := by
  obtain ⟨l, rfl, ⟨dx, vs, h1, h2⟩, h3, h4, h5⟩ := n
  refine ⟨upd B l (.ins (S.cls t) dx vs), Ex.new h3, ?_, .ob upd_same (h2.names.trans hf) ((h2.mono (Ex.new h3)).vals)⟩
  refine ⟨R.exB.trans (Ex.new h3), fun a ps z => ?_, fun a u z => ?_, R.tab, R.keep, R.al, R.l0, fun a z1 z2 => ?_, R.len, fun i av hi => ?_, R.sep⟩
  · by_cases ha : a = l
    · subst ha; rw [upd_same] at z; cases z
    · rw [upd_ne ha] at z; exact R.nt a ps z
  · by_cases ha : a = l
    · subst ha; rw [upd_same] at z; rw [← z]; exact h1
    · rw [upd_ne ha] at z; exact R.ex a u z
  · by_cases ha : a = l
    · rw [ha]; exact h4
    · rw [upd_ne ha] at z1; exact R.fr a z1 z2
  · have q := R.sl i av hi
    cases av with
    | imm d => obtain ⟨v, q1, q2⟩ := q; exact ⟨v, q1, q2.mono (Ex.new h3)⟩
    | own p o =>
      obtain ⟨l', q1, q2, q3, q4⟩ := q
      refine ⟨l', q1, q2.mono (Ex.new h3) rfl, ?_, q4⟩
      have ne : l' ≠ l := fun e => h5 i p o hi (by rw [q1, e])
      rw [upd_ne ne]; exact q3
end
end AX
namespace AX
open PySem PySem.Spec PyProof.Rows L2 Evl
/-! ## fields, methods, properties, own operators, making of instances -/
/-- a method of the class t -/
structure CanM (P : Program) (w : World) (mg : Str → Option Value) (base : Heap) (S : Sig) (k : Nat) (t : Nat) (m : Str) (ps : List Str) (W : AW1) : Prop where
  ex : ∃ f fd, FnOk P w S.K mg base CX0 k f fd ps (spA S ps.length W) ∧ Meth S.K (S.cls t) m f ∧ L2.Binds S.K fd ps []
/-- a property -/
structure CanP (P : Program) (w : World) (mg : Str → Option Value) (base : Heap) (S : Sig) (k : Nat) (t : Nat) (m : Str) (W : AW1) : Prop where
  ex : ∃ p f fd, FnOk P w S.K mg base CX0 k f fd ["self"] (spA S 1 W) ∧ PropOf S.K (S.cls t) m p f ∧ L2.Binds S.K fd ["self"] []
/-- the class itself, by its __init__ -/
structure CanC (P : Program) (w : World) (mg : Str → Option Value) (base : Heap) (S : Sig) (k : Nat) (x : Str) (t : Nat) (ps : List Str) (W : AW1) : Prop where
  ex : ∃ f fd, FnOk P w S.K mg base CX0 k f fd ps (spA S ps.length W) ∧ Mk S.K (S.cls t) f ∧ mg x = some (.ref (S.cls t)) ∧ L2.Binds S.K fd ps []
section
variable {S : Sig} {X : Cx} {δ : Sto} {a b e o : Expr} {es : List Expr} {pos p apos fpos xp : Pos} {k : Sto → DV → Prop} {kt : Sto → Bool → Prop} {D : AEnds} {ps : List Str} {W : AW1} {lv t : Nat} {x f m : Str}
/-- self.f = e, self the frame's own -/
theorem DoS.setFld (i : Nat) {p0 : Option Nat} {o0 : OV} (hK : X.K = S.K) (c : Cls S.K (S.cls t)) (nf : NoAttr S.K (S.cls t) f) (hv : δ[i]? = some (some (.own p0 o0)))
    (he : AE S X e δ fun δ1 d => ∃ (p : Option Nat) (fs : List (Str × DV)), δ1[i]? = some (some (.own p (.obj t fs))) ∧ fs.length < 1000 ∧ D.nx (δ1.set i (some (.own p (.obj t (fput f d fs)))))) (n : NameOk X i x := by exact NameOk.of)
    (hs : swapsWith e (some (.Attribute (.Name x xp) f fpos)) pos.line X.env = pure false := by rfl) : DoS S X (.Assign [.Attribute (.Name x xp) f fpos] e pos) δ D := fun G σ B H R =>
  WS.of (ps_fld n.pe (pw_e e) hs) ((he G σ B H R).imp fun v H1 ⟨B1, δ1, d, e1, R1, r, p, fs, hi, hl, q⟩ => by
    obtain ⟨l, h2, ⟨dx, vs, h3, h4⟩, h5, h6⟩ := R1.sl i _ hi
    exact ⟨.ref l, h2, l, _, dx, vs, rfl, h3, by rw [hK]; exact c, by rw [hK]; exact nf, by rw [h4.len]; exact hl, B1, _, R1.write (o' := .obj t (fput f d fs)) hi h2 (fun ps z => by cases z) ⟨dx, _, upd_same, h4.put r⟩, q⟩)
/-- self.f, self the frame's own -/
theorem AE.fldO (i : Nat) {p0 : Option Nat} {fs : List (Str × DV)} {d : DV} (hK : X.K = S.K) (c : Cls S.K (S.cls t)) (nf : NoAttr S.K (S.cls t) f) (hv : δ[i]? = some (some (.own p0 (.obj t fs)))) (hf : fs.lookup f = some d) (hk : k δ d) (n : NameOk X i x := by exact NameOk.of)
    (hb : attributeBase (.Name x xp) f X.env (eval (.Name x xp) X.env) = eval (.Name x xp) X.env := by rfl) : AE S X (.Attribute (.Name x xp) f pos) δ k := fun G σ B H R =>
  WE.of (pe_fld n.pe hb) (by
    obtain ⟨l, h2, ⟨dx, vs, h3, h4⟩, h5, h6⟩ := R.sl i _ hv
    obtain ⟨v, q1, q2⟩ := h4.look hf
    exact ⟨.ref l, h2, l, _, dx, vs, v, rfl, h3, by rw [hK]; exact c, by rw [hK]; exact nf, q1, B, δ, d, Ex.refl B, R, q2, hk⟩)
/-- o.f, o known -/
theorem AE.fld (hK : X.K = S.K) (c : Cls S.K (S.cls t)) (nf : NoAttr S.K (S.cls t) f) (ho : AE S X o δ fun δ1 d => ∃ ds x, d = .ob t ds ∧ ((S.flds t).zip ds).lookup f = some x ∧ k δ1 x)
    (hb : attributeBase o f X.env (eval o X.env) = eval o X.env := by rfl) : AE S X (.Attribute o f pos) δ k := fun G σ B H R =>
  WE.of (pe_fld (pw_e o) hb) ((ho G σ B H R).imp fun v H1 ⟨B1, δ1, d, e1, R1, r, ds, x, hd, hl, q⟩ => by
    subst hd
    obtain ⟨a, dx, fs, rfl, h1, h2, h3⟩ := r.ob_inv
    obtain ⟨u, q1, q2⟩ := ob_look h2 h3 hl
    exact ⟨a, _, dx, fs, u, rfl, R1.ex _ _ h1, by rw [hK]; exact c, by rw [hK]; exact nf, q1, B1, δ1, x, e1, R1, q2, q⟩)
/-- o.m(e, ..), o known -/
theorem AE.meth {pl : Sem Bool} (C : CanM X.prog X.w X.mg X.base S lv t m ps W) (c : Cls S.K (S.cls t)) (hno : (S.flds t).contains m = false) (hr : Room lv X.A) (hK : X.K = S.K)
    (ho : AE S X o δ fun δ0 d0 => ∃ ds0, d0 = .ob t ds0 ∧ AA S X (e :: es) δ0 fun δ1 as => OkA ps.length δ1 (.d d0 :: as) ∧ W (.imm d0 :: toA δ1 0 as) fun os r => ∃ d, r = .imm d ∧ k (backI δ1 (ownI as) os) d)
    (hst : starEach (e :: es) X.env = (false, eval e X.env) :: starEach es X.env := by rfl) (hpl : (backTo pos (starEach es X.env)).any (·.1) = false := by rfl)
    (ht : eval (.Call (.Attribute o m apos) (e :: es) [] pos) X.env = (do
      let ov ← eval o X.env
      standAt apos.atName
      let (f, first) ← holding [ov] (getMethod ov m pl)
      callWith pos f first (backTo pos (starEach (e :: es) X.env)) (backToKw pos (keywordEach [] X.env))) := by rfl) : AE S X (.Call (.Attribute o m apos) (e :: es) [] pos) δ k := fun G σ B H R => by
  obtain ⟨f, fd, F, hm, hb⟩ := C.ex
  rw [← hK] at F hm hb c
  refine WE.of (pe_meth (CX := CX0) (pw_e o) c hm F hr hb .nil pass0 (pw_a _) hst hpl ht) ((ho G σ B H R).imp fun v H0 ⟨B0, δ0, d0, e0, R0, r0, ds0, hd, ha⟩ => ?_)
  subst hd
  obtain ⟨a, dx, fs, rfl, h1, h2, h3⟩ := id r0.ob_inv
  refine ⟨a, dx, fs, rfl, R0.ex _ _ h1, ob_nolook h2 hno, (ha G σ B0 H0 R0).imp fun vs H1 ⟨B1, δ1, as, e1, R1, r1, ok, hw⟩ => ?_⟩
  exact sp_of (vs := .ref a :: vs) (as := .d (.ob t ds0) :: as) R1 (.cons (a := V.ref a) (b := Arg.d (.ob t ds0)) (r0.mono e1) r1) ok hw (fun v B' H' os r e2 R2 hr hk => by
    obtain ⟨d, rfl, hk⟩ := hk
    exact ⟨B', _, d, (e0.trans e1).trans e2, R2, hr, hk⟩) E0
/-- o.f, a property -/
theorem AE.prop (C : CanP X.prog X.w X.mg X.base S lv t f W) (c : Cls S.K (S.cls t)) (hr : Room (lv + 1) X.A) (hK : X.K = S.K) (ho : AE S X o δ fun δ1 d0 => ∃ ds0, d0 = .ob t ds0 ∧ W [.imm d0] fun os r => ∃ d, r = .imm d ∧ k δ1 d)
    (hab : attributeBase o f X.env (eval o X.env) = eval o X.env := by rfl) : AE S X (.Attribute o f pos) δ k := fun G σ B H R => by
  obtain ⟨p, g, fd, F, hp, hb⟩ := C.ex
  rw [← hK] at F hp hb c
  refine WE.of (pe_prop (CX := CX0) (pw_e o) c hp F hr hb .nil pass0 hab) ((ho G σ B H R).imp fun v H0 ⟨B0, δ0, d0, e0, R0, r0, ds0, hd, hw⟩ => ?_)
  subst hd
  obtain ⟨a, dx, fs, rfl, h1, h2, h3⟩ := id r0.ob_inv
  refine ⟨a, dx, fs, rfl, R0.ex _ _ h1, ?_⟩
  exact sp_of (ps := ["self"]) (vs := [.ref a]) (as := [.d (.ob t ds0)]) R0 (.cons (a := V.ref a) (b := Arg.d (.ob t ds0)) r0 .nil) (OkA.d rfl rfl) hw (fun v B' H' os r e2 R2 hr hk => by
    obtain ⟨d, rfl, hk⟩ := hk
    exact ⟨B', _, d, e0.trans e2, R2, hr, hk⟩) E0
theorem args_of {σ : L2.St} {B : Hp} : ∀ {vs : List V} {ds : List DV}, RepL S B vs ds → Paired (ArgOk S σ B) vs (ds.map Arg.d)
  | _, _, .nil => .nil
  | _, _, .cons h r => .cons (b := Arg.d _) h (args_of r)
theorem sp_two {G : Gh} {σ : L2.St} {B B1 H : Hp} {δ1 : Sto} {v w : V} {d d2 : DV} {ps : List Str} (R : Rst S G σ B1 H δ1) (r : Rep S B1 v d) (r2 : Rep S B1 w d2) (hps : ps.length = 2) (hw : W [.imm d, .imm d2] fun os r => ∃ d, r = .imm d ∧ k δ1 d) (eB : Ex B B1) :
    spA S ps.length W [v, w] H (fun v H' => ∃ B' δ' d, Ex B B' ∧ Rst S G σ B' H' δ' ∧ Rep S B' v d ∧ k δ' d) E0 :=
  sp_of (ps := ps) (vs := [v, w]) (as := [.d d, .d d2]) R (.cons (b := Arg.d d) r (.cons (b := Arg.d d2) r2 .nil)) (OkA.d (by rw [hps]; rfl) rfl) hw (fun v B' H' os r e2 R2 hr hk => by
    obtain ⟨d, rfl, hk⟩ := hk
    exact ⟨B', _, d, eB.trans e2, R2, hr, hk⟩) E0
/-- a op b, both of the class t -/
theorem AE.own2 {op : Operator} (C : CanM X.prog X.w X.mg X.base S lv t (PySem.dunder op.info.2) ps W) (hps : ps.length = 2) (hsf : PySem.W.selfFirst S.K (S.cls t) = true) (hr : Room lv X.A) (hK : X.K = S.K)
    (ha : AE S X a δ fun δ1 x => AE S X b δ1 fun δ2 y => ∃ xs ys, x = .ob t xs ∧ y = .ob t ys ∧ W [.imm x, .imm y] fun os r => ∃ d, r = .imm d ∧ k δ2 d) : AE S X (.BinOp a op b pos) δ k := fun G σ B H R => by
  obtain ⟨f, fd, F, hm, hb⟩ := C.ex
  rw [← hK] at F hm hb hsf
  refine WE.of (pe_op (OWN.op_own (CX := CX0) (E := E0) hm.at_ hm.fn hsf F hr hb pass0) (pw_e a) (pw_e b)) ((ha G σ B H R).imp fun v H1 ⟨B1, δ1, x, e1, R1, r1, h2⟩ => (h2 G σ B1 H1 R1).imp fun w H2 ⟨B2, δ2, y, e2, R2, r2, xs, ys, hx, hy, hw⟩ => ?_)
  subst hx hy
  have r1 := r1.mono e2
  obtain ⟨a, dx, fs, rfl, q1, q2, q3⟩ := id r1.ob_inv
  obtain ⟨b, dy, gs, rfl, p1, p2, p3⟩ := id r2.ob_inv
  exact ⟨a, b, dx, dy, fs, gs, rfl, rfl, R2.ex _ _ q1, R2.ex _ _ p1, sp_two R2 r1 r2 hps hw (e1.trans e2)⟩
/-- a == b, both of the class t -/
theorem AE.eqOb (C : CanM X.prog X.w X.mg X.base S lv t "__eq__" ps W) (hps : ps.length = 2) (hn : PySem.W.notFirst S.K (S.cls t) (.ref (S.cls t)) = true) (hr : Room lv X.A) (hK : X.K = S.K)
    (ha : AE S X a δ fun δ1 x => AE S X b δ1 fun δ2 y => ∃ xs ys, x = .ob t xs ∧ y = .ob t ys ∧ W [.imm x, .imm y] fun os r => ∃ d, r = .imm d ∧ k δ2 d) : AE S X (.Compare a [.Eq] [b] pos) δ k := fun G σ B H R => by
  obtain ⟨f, fd, F, hm, hb⟩ := C.ex
  rw [← hK] at F hm hb hn
  refine WE.of (pe_cmpR (OWN.op_eq (CX := CX0) (E := E0) hm.at_ hm.fn hn F hr hb pass0) (pw_e a) (pw_e b) (nomark _)) ((ha G σ B H R).imp fun v H1 ⟨B1, δ1, x, e1, R1, r1, h2⟩ => (h2 G σ B1 H1 R1).imp fun w H2 ⟨B2, δ2, y, e2, R2, r2, xs, ys, hx, hy, hw⟩ => ?_)
  subst hx hy
  have r1 := r1.mono e2
  obtain ⟨a, dx, fs, rfl, q1, q2, q3⟩ := id r1.ob_inv
  obtain ⟨b, dy, gs, rfl, p1, p2, p3⟩ := id r2.ob_inv
  exact ⟨a, b, dx, dy, fs, gs, rfl, rfl, R2.ex _ _ q1, R2.ex _ _ p1, sp_two R2 r1 r2 hps hw (e1.trans e2)⟩
/-- a in o, o of the class t -/
theorem AT.inOb (C : CanM X.prog X.w X.mg X.base S lv t "__contains__" ps W) (hps : ps.length = 2) (hr : Room lv X.A) (hK : X.K = S.K)
    (ha : AE S X a δ fun δ1 x => AE S X b δ1 fun δ2 y => ∃ ys, y = .ob t ys ∧ W [.imm y, .imm x] fun os r => ∃ z, r = .imm (.bl z) ∧ k δ2 (.bl z)) (hm : behindInMarks .In b = false := by rfl) : AE S X (.Compare a [.In] [b] pos) δ k := fun G σ B H R => by
  obtain ⟨f, fd, F, hmm, hb⟩ := C.ex
  rw [← hK] at F hmm hb
  refine WE.of (pe_cmpR (OWN.op_in (CX := CX0) (E := E0) hmm.at_ hmm.fn F hr hb pass0) (pw_e a) (pw_e b) hm) ((ha G σ B H R).imp fun v H1 ⟨B1, δ1, x, e1, R1, r1, h2⟩ => (h2 G σ B1 H1 R1).imp fun w H2 ⟨B2, δ2, y, e2, R2, r2, ys, hy, hw⟩ => ?_)
  subst hy
  have r1 := r1.mono e2
  obtain ⟨b, dy, gs, rfl, p1, p2, p3⟩ := id r2.ob_inv
  refine ⟨b, dy, gs, rfl, R2.ex _ _ p1, ?_⟩
  exact sp_of (ps := ps) (vs := [.ref b, v]) (as := [.d (.ob t ys), .d x]) R2 (.cons (a := V.ref b) (b := Arg.d (.ob t ys)) r2 (.cons (b := Arg.d x) r1 .nil)) (OkA.d (by rw [hps]; rfl) rfl) hw (fun v B' H' os r e3 R3 hr hk => by
    obtain ⟨z, rfl, hk⟩ := hk
    have : v = .bl z := Rep.bl_inv hr
    subst this
    exact ⟨z, rfl, B', _, .bl z, (e1.trans e2).trans e3, R3, .bl z, hk⟩) E0
/-- len(o), o of the class t -/
theorem AE.lenOb (C : CanM X.prog X.w X.mg X.base S lv t "__len__" ["self"] W) (hr : Room (lv + 1) X.A) (hK : X.K = S.K) (hm : X.mg "len" = none)
    (ho : AE S X e δ fun δ1 x => ∃ xs, x = .ob t xs ∧ W [.imm x] fun os r => ∃ n : Nat, n ≤ 1000000 ∧ r = .imm (.int n) ∧ k δ1 (.int n)) (hg : Gl X "len" := by rfl)
    (he : starEach [e] X.env = (false, eval e X.env) :: starEach [] X.env := by rfl) (hpl : (backTo pos (starEach [] X.env)).any (·.1) = false := by rfl) : AE S X (.Call (.Name "len" p) [e] [] pos) δ k := fun G σ B H R => by
  obtain ⟨f, fd, F, hmm, hb⟩ := C.ex
  rw [← hK] at F hmm hb
  refine WE.of (pe_callB (OWN.call_len (CX := CX0) (E := E0) hmm.at_ hmm.fn F hr hb pass0) hg hm PySem.boot_len (pa_cons (pw_e e) pa_nil he) (by decide) (by decide) he hpl) ((ho G σ B H R).imp fun v H1 ⟨B1, δ1, x, e1, R1, r1, xs, hx, hw⟩ => ?_)
  subst hx
  obtain ⟨a, dx, fs, rfl, q1, q2, q3⟩ := id r1.ob_inv
  refine ⟨a, dx, fs, rfl, R1.ex _ _ q1, ?_⟩
  exact sp_of (ps := ["self"]) (vs := [.ref a]) (as := [.d (.ob t xs)]) R1 (.cons (a := V.ref a) (b := Arg.d (.ob t xs)) r1 .nil) (OkA.d rfl rfl) hw (fun v B' H' os r e3 R3 hr hk => by
    obtain ⟨n, hn, rfl, hk⟩ := hk
    have : v = .int n := Rep.int_inv hr
    subst this
    exact ⟨n, hn, rfl, B', _, .int n, e1.trans e3, R3, .int _, hk⟩) E0
/-- C(e, ..): a new instance, known at once -/
theorem AE.make (C : CanC X.prog X.w X.mg X.base S lv x t ps W) (hr : Room (lv + 1) X.A) (hK : X.K = S.K)
    (ha : AA S X (e :: es) δ fun δ1 as => ∃ ds : List DV, as = ds.map Arg.d ∧ ds.length + 1 = ps.length ∧ W (.own (some 0) (.obj t []) :: ds.map AV.imm) fun os r => ∃ fs, os = [.obj t fs] ∧ r = .imm .non ∧ fs.map (·.1) = S.flds t ∧ k δ1 (.ob t (fs.map (·.2)))) (hg : Gl X x := by rfl)
    (hdb : (x == ("__debug__" : Str)) = false := by decide) (he : starEach (e :: es) X.env = (false, eval e X.env) :: starEach es X.env := by rfl) (hpl : (backTo pos (starEach es X.env)).any (·.1) = false := by rfl) : AE S X (.Call (.Name x p) (e :: es) [] pos) δ k := fun G σ B H R => by
  obtain ⟨f, fd, F, M, hm, hb⟩ := C.ex
  rw [← hK] at F M hb
  refine WE.of (pe_make (CX := CX0) (E := E0) M F hr hg hm hb .nil pass0 (pw_a _) hdb he hpl) ((ha G σ B H R).imp fun vs H1 ⟨B1, δ1, as, e1, R1, r1, ds, has, hl, hw⟩ => ?_)
  subst has
  intro a dx ha0 hdx ne
  have hdx2 : ∀ u, upd H1 dx u a = none := fun u => by rw [upd_ne (Ne.symm ne)]; exact ha0
  have R2 : Rst S G σ B1 (upd (upd H1 dx (.own a)) a (.ins (S.cls t) dx [])) δ1 := (R1.fresh hdx).fresh (hdx2 _)
  have nw : New S G σ B1 (upd (upd H1 dx (.own a)) a (.ins (S.cls t) dx [])) δ1 (.ref a) (.obj t []) := by
    refine ⟨a, rfl, ⟨dx, [], upd_same, .nil⟩, fresh_back R1.ex ha0, R1.none1 ha0, fun i q u hi z => ?_⟩
    obtain ⟨l, h2, h3, _⟩ := R1.sl i _ hi
    rw [h2] at z
    have e : l = a := by injection (Option.some.inj (Option.some.inj z))
    rw [e] at h3
    exact h3.ne ha0
  have R3 := R2.push nw
  have top : (δ1 ++ [some (AV.own none (.obj t []))])[δ1.length]? = some (some (.own none (.obj t []))) := by simp
  have tops : (σ ++ [some (V.ref a)])[δ1.length]? = some (some (V.ref a)) := by rw [← R1.len]; simp
  have args : Paired (ArgOk S (σ ++ [some (V.ref a)]) B1) vs (ds.map Arg.d) := args_of (args_d r1)
  have ownd : ∀ ds : List DV, ownI (ds.map Arg.d) = [] := fun ds => by
    induction ds with
    | nil => rfl
    | cons d ds ih => exact ih
  have toad : ∀ (δ : Sto) (n : Nat) (ds : List DV), toA δ n (ds.map Arg.d) = ds.map AV.imm := fun δ n ds => by
    induction ds with
    | nil => rfl
    | cons d ds ih => show AV.imm d :: toA δ n (ds.map Arg.d) = _; rw [ih]; rfl
  refine sp_of (ps := ps) (vs := .ref a :: vs) (as := .o δ1.length :: ds.map Arg.d) R3 (.cons (a := V.ref a) (b := Arg.o δ1.length) tops args) ⟨by simpa using hl, ?_, ?_⟩ ?_ (kk := fun os r => ∃ fs, os = [.obj t fs] ∧ r = .imm .non ∧ fs.map (·.1) = S.flds t ∧ k δ1 (.ob t (fs.map (·.2)))) (fun v B' H' os r e3 R4 hr hk => ?_) E0
  · show (δ1.length :: ownI (ds.map Arg.d)).Nodup
    rw [ownd]; simp
  · intro i hi
    have : i ∈ δ1.length :: ownI (ds.map Arg.d) := hi
    rw [ownd, List.mem_singleton] at this
    subst this
    exact ⟨_, _, top⟩
  · have : toA (δ1 ++ [some (AV.own none (.obj t []))]) 0 (.o δ1.length :: ds.map Arg.d) = .own (some 0) (.obj t []) :: ds.map AV.imm := by
      show (match (δ1 ++ [some (AV.own none (.obj t []))])[δ1.length]? with
        | some (some (.own _ o)) => AV.own (some 0) o
        | _ => .own (some 0) (.lst [])) :: toA _ 1 (ds.map Arg.d) = _
      rw [top, toad]
    rw [this]; exact hw
  · obtain ⟨fs, rfl, rfl, hn, hk⟩ := hk
    have hv : v = .non := Rep.non_inv hr
    refine ⟨hv, ?_⟩
    have eb : backI (δ1 ++ [some (AV.own none (.obj t []))]) (ownI (.o δ1.length :: ds.map Arg.d)) [.obj t fs] = δ1 ++ [some (.own none (.obj t fs))] := by
      show backI _ (δ1.length :: ownI (ds.map Arg.d)) _ = _
      rw [ownd]
      show setO (δ1 ++ [some (AV.own none (.obj t []))]) δ1.length (.obj t fs) = _
      unfold setO
      rw [top]
      show (δ1 ++ [some (AV.own none (.obj t []))]).set δ1.length (some (AV.own none (.obj t fs))) = _
      rw [List.set_append_right _ _ (Nat.le_refl _)]; simp
    rw [eb] at R4
    obtain ⟨R5, n5⟩ := R4.pop
    obtain ⟨B6, e6, R6, r6⟩ := n5.freezeO R5 hn
    exact ⟨B6, δ1, _, (e1.trans e3).trans e6, R6, r6, hk⟩
end
end AX
/-! Rows of integers: spans, reduced rows, their uniqueness. Plain Lean. -/
namespace RX

abbrev Row := List Int
/-- the number at a place, 0 beyond -/
def at_ (r : Row) (i : Nat) : Int := r.getD i 0

theorem at_eq_get {r : Row} {i : Nat} (h : i < r.length) : at_ r i = r[i] := by
  unfold at_; simp [List.getD, h]
theorem at_ge {r : Row} {i : Nat} (h : r.length ≤ i) : at_ r i = 0 := by
  unfold at_; simp [List.getD, List.getElem?_eq_none h]
theorem at_map {f : Int → Int} (h0 : f 0 = 0) (r : Row) (i : Nat) : at_ (r.map f) i = f (at_ r i) := by
  unfold at_
  simp only [List.getD, List.getElem?_map]
  cases r[i]? <;> simp [h0]
theorem ext_at {r s : Row} (hl : r.length = s.length) (h : ∀ i, at_ r i = at_ s i) : r = s := by
  apply List.ext_getElem hl
  intro i h1 h2
  have := h i
  rw [at_eq_get h1, at_eq_get h2] at this
  exact this
theorem at_mem {r : Row} {x : Int} (h : x ∈ r) : ∃ i, i < r.length ∧ at_ r i = x := by
  obtain ⟨i, hi, e⟩ := List.getElem_of_mem h
  exact ⟨i, hi, by rw [at_eq_get hi, e]⟩
theorem mem_at {r : Row} {i : Nat} (h : i < r.length) : at_ r i ∈ r := by
  rw [at_eq_get h]; exact List.getElem_mem h

/-! ### greatest common factor -/
def gcdL (r : Row) : Nat := r.foldl (fun g x => Nat.gcd g x.natAbs) 0
theorem gcdF_dvd (r : Row) : ∀ g : Nat, (r.foldl (fun g x => Nat.gcd g x.natAbs) g) ∣ g ∧ ∀ x ∈ r, (r.foldl (fun g x => Nat.gcd g x.natAbs) g) ∣ x.natAbs := by
  induction r with
  | nil => intro g; exact ⟨Nat.dvd_refl g, fun x h => by simp at h⟩
  | cons y r ih =>
    intro g
    obtain ⟨h1, h2⟩ := ih (Nat.gcd g y.natAbs)
    refine ⟨Nat.dvd_trans h1 (Nat.gcd_dvd_left _ _), fun x hx => ?_⟩
    rcases List.mem_cons.mp hx with rfl | hx
    · exact Nat.dvd_trans h1 (Nat.gcd_dvd_right _ _)
    · exact h2 x hx
theorem gcdF_great (r : Row) : ∀ (g d : Nat), d ∣ g → (∀ x ∈ r, d ∣ x.natAbs) → d ∣ r.foldl (fun g x => Nat.gcd g x.natAbs) g := by
  induction r with
  | nil => intro g d h _; exact h
  | cons y r ih =>
    intro g d h1 h2
    exact ih _ _ (Nat.dvd_gcd h1 (h2 y (by simp))) (fun x hx => h2 x (List.mem_cons_of_mem _ hx))
theorem gcdL_dvd {r : Row} {x : Int} (h : x ∈ r) : gcdL r ∣ x.natAbs := (gcdF_dvd r 0).2 x h
theorem gcdL_dvd' {r : Row} {x : Int} (h : x ∈ r) : (gcdL r : Int) ∣ x := Int.ofNat_dvd_left.mpr (gcdL_dvd h)
theorem gcdL_great {r : Row} {d : Nat} (h : ∀ x ∈ r, d ∣ x.natAbs) : d ∣ gcdL r := gcdF_great r 0 d (Nat.dvd_zero d) h
theorem gcdL_dvd_at (r : Row) (i : Nat) : (gcdL r : Int) ∣ at_ r i := by
  by_cases h : i < r.length
  · exact gcdL_dvd' (mem_at h)
  · rw [at_ge (by omega)]; exact Int.dvd_zero _
theorem gcdL_zero {r : Row} : gcdL r = 0 ↔ ∀ x ∈ r, x = 0 := by
  constructor
  · intro h x hx
    have := gcdL_dvd hx
    rw [h] at this
    have := Nat.eq_zero_of_zero_dvd this
    omega
  · intro h
    have : 0 ∣ gcdL r := gcdL_great (fun x hx => by rw [h x hx]; exact Nat.dvd_refl 0)
    exact Nat.eq_zero_of_zero_dvd this
theorem gcdL_scale (c : Int) (r : Row) : gcdL (r.map (c * ·)) = c.natAbs * gcdL r := by
  unfold gcdL
  have key : ∀ (r : Row) (g : Nat), (r.map (c * ·)).foldl (fun g x => Nat.gcd g x.natAbs) (c.natAbs * g) = c.natAbs * r.foldl (fun g x => Nat.gcd g x.natAbs) g := by
    intro r
    induction r with
    | nil => intro g; rfl
    | cons y r ih =>
      intro g
      simp only [List.map_cons, List.foldl_cons]
      rw [Int.natAbs_mul, Nat.gcd_mul_left]
      exact ih _
  have := key r 0
  simpa using this

/-! ### the first number that is not 0 -/
def lead (r : Row) : Nat := r.findIdx (fun x => decide (x ≠ 0))
def isZ (r : Row) : Prop := ∀ i, at_ r i = 0
theorem isZ_iff {r : Row} : isZ r ↔ ∀ x ∈ r, x = 0 := by
  constructor
  · intro h x hx
    obtain ⟨i, _, e⟩ := at_mem hx
    rw [← e]; exact h i
  · intro h i
    by_cases hi : i < r.length
    · exact h _ (mem_at hi)
    · exact at_ge (by omega)
theorem lead_lt {r : Row} (h : ¬ isZ r) : lead r < r.length := by
  unfold lead
  rw [List.findIdx_lt_length]
  rw [isZ_iff] at h
  apply Classical.byContradiction
  intro hn
  apply h
  intro x hx
  apply Classical.byContradiction
  intro hx0
  exact hn ⟨x, hx, by simpa using hx0⟩
theorem lead_before {r : Row} {i : Nat} (h : i < lead r) : at_ r i = 0 := by
  have hl : i < r.length := Nat.lt_of_lt_of_le h List.findIdx_le_length
  have := List.not_of_lt_findIdx (p := fun x => decide (x ≠ 0)) (xs := r) (show i < r.findIdx _ from h)
  rw [at_eq_get hl]
  simpa using this
theorem lead_ne {r : Row} (h : ¬ isZ r) : at_ r (lead r) ≠ 0 := by
  have hl := lead_lt h
  rw [at_eq_get hl]
  have := List.findIdx_getElem (p := fun x => decide (x ≠ 0)) (xs := r) (w := hl)
  exact of_decide_eq_true this
theorem lead_z {r : Row} : lead r = r.length ↔ isZ r := by
  constructor
  · intro h
    apply Classical.byContradiction
    intro hn
    have := lead_lt hn
    omega
  · intro h
    apply Classical.byContradiction
    intro hn
    have h1 : lead r ≤ r.length := List.findIdx_le_length
    have h2 : lead r < r.length := by omega
    have := List.findIdx_getElem (p := fun x => decide (x ≠ 0)) (xs := r) (w := h2)
    have h3 := h (lead r)
    rw [at_eq_get h2] at h3
    exact of_decide_eq_true this h3
/-- the lead, from what it says -/
theorem lead_eq {r : Row} {k : Nat} (h1 : ∀ i, i < k → at_ r i = 0) (h2 : at_ r k ≠ 0) : lead r = k := by
  have hz : ¬ isZ r := fun z => h2 (z k)
  rcases Nat.lt_trichotomy (lead r) k with h | h | h
  · exact absurd (h1 _ h) (lead_ne hz)
  · exact h
  · exact absurd (lead_before h) h2
def leadV (r : Row) : Int := at_ r (lead r)

/-! ### the primitive multiple -/
def sgn (x : Int) : Int := if x > 0 then 1 else -1
theorem sgn_mul_self (x : Int) : sgn x * sgn x = 1 := by unfold sgn; split <;> rfl
theorem sgn_ne (x : Int) : sgn x ≠ 0 := by unfold sgn; split <;> decide
def prim (r : Row) : Row := if gcdL r = 0 then r else r.map (fun x => sgn (leadV r) * x / (gcdL r : Int))
theorem prim_len (r : Row) : (prim r).length = r.length := by unfold prim; split <;> simp
theorem prim_z {r : Row} (h : isZ r) : prim r = r := if_pos (gcdL_zero.mpr (isZ_iff.mp h))
theorem gcd_pos {r : Row} (h : ¬ isZ r) : gcdL r ≠ 0 := fun z => h (isZ_iff.mpr (gcdL_zero.mp z))
theorem prim_at {r : Row} (h : ¬ isZ r) (i : Nat) : at_ (prim r) i = sgn (leadV r) * at_ r i / (gcdL r : Int) := by
  unfold prim
  rw [if_neg (gcd_pos h)]
  exact at_map (f := fun x => sgn (leadV r) * x / (gcdL r : Int)) (by simp) r i
/-- prim r times the factor is r or -r -/
theorem prim_mul {r : Row} (h : ¬ isZ r) (i : Nat) : (gcdL r : Int) * at_ (prim r) i = sgn (leadV r) * at_ r i := by
  rw [prim_at h]
  exact Int.mul_ediv_cancel' (Int.dvd_trans (gcdL_dvd_at r i) (Int.dvd_mul_left _ _))
theorem prim_mul' {r : Row} (h : ¬ isZ r) (i : Nat) : (sgn (leadV r) * gcdL r : Int) * at_ (prim r) i = at_ r i := by
  rw [Int.mul_assoc, prim_mul h, ← Int.mul_assoc, sgn_mul_self, Int.one_mul]
theorem prim_at_zero {r : Row} (i : Nat) : at_ (prim r) i = 0 ↔ at_ r i = 0 := by
  by_cases h : isZ r
  · rw [prim_z h]
  · have e := prim_mul h i
    have hg : (gcdL r : Int) ≠ 0 := by have := gcd_pos h; omega
    constructor
    · intro z
      rw [z, Int.mul_zero] at e
      rcases Int.mul_eq_zero.mp e.symm with q | q
      · exact absurd q (sgn_ne _)
      · exact q
    · intro z
      rw [z, Int.mul_zero] at e
      rcases Int.mul_eq_zero.mp e with q | q
      · exact absurd q hg
      · exact q
theorem prim_isZ {r : Row} : isZ (prim r) ↔ isZ r := by
  constructor <;> intro h i
  · exact (prim_at_zero i).mp (h i)
  · exact (prim_at_zero i).mpr (h i)
theorem prim_lead (r : Row) : lead (prim r) = lead r := by
  by_cases h : isZ r
  · rw [prim_z h]
  · exact lead_eq (fun i hi => (prim_at_zero i).mpr (lead_before hi)) (fun z => lead_ne h ((prim_at_zero _).mp z))
theorem sgn_pos {x : Int} (h : x ≠ 0) : sgn x * x > 0 := by unfold sgn; split <;> omega
theorem prim_pos {r : Row} (h : ¬ isZ r) : leadV (prim r) > 0 := by
  unfold leadV
  rw [prim_lead]
  have e := prim_mul h (lead r)
  have hs : sgn (leadV r) * at_ r (lead r) > 0 := sgn_pos (lead_ne h)
  rw [← e] at hs
  have hg : (gcdL r : Int) > 0 := by have := gcd_pos h; omega
  exact Int.pos_of_mul_pos_right hs hg

/-- a row without a common factor, its first number above 0 -/
def IsPrim (r : Row) : Prop := gcdL r = 1 ∧ leadV r > 0
theorem IsPrim.nz {r : Row} (h : IsPrim r) : ¬ isZ r := fun z => by
  have := h.2
  unfold leadV at this
  rw [z] at this
  omega
theorem gcd_prim {r : Row} (h : ¬ isZ r) : gcdL (prim r) = 1 := by
  have hg := gcd_pos h
  have e : r = (prim r).map ((sgn (leadV r) * gcdL r : Int) * ·) := by
    apply ext_at (by simp [prim_len])
    intro i
    rw [at_map (f := fun x => (sgn (leadV r) * gcdL r : Int) * x) (by simp)]
    exact (prim_mul' h i).symm
  have e2 := congrArg gcdL e
  rw [gcdL_scale] at e2
  have : (sgn (leadV r) * (gcdL r : Int)).natAbs = gcdL r := by
    rw [Int.natAbs_mul]
    unfold sgn; split <;> simp
  rw [this] at e2
  exact Nat.eq_of_mul_eq_mul_left (Nat.pos_of_ne_zero hg) (by rw [Nat.mul_one]; exact e2.symm)
theorem prim_isPrim {r : Row} (h : ¬ isZ r) : IsPrim (prim r) := ⟨gcd_prim h, prim_pos h⟩
theorem prim_of_isPrim {r : Row} (h : IsPrim r) : prim r = r := by
  apply ext_at (prim_len r)
  intro i
  rw [prim_at h.nz, h.1]
  have : sgn (leadV r) = 1 := if_pos h.2
  rw [this]
  simp
theorem prim_prim (r : Row) : prim (prim r) = prim r := by
  by_cases h : isZ r
  · rw [prim_z h, prim_z h]
  · exact prim_of_isPrim (prim_isPrim h)

/-- d divides each a * x, x in r: it divides a * (the factor of r) -/
theorem dvd_mul_gcd {r : Row} {d a : Int} (h : ∀ i, d ∣ a * at_ r i) : d ∣ a * (gcdL r : Int) := by
  have h1 : d.natAbs ∣ gcdL (r.map (a * ·)) := gcdL_great (fun x hx => by
    obtain ⟨y, hy, rfl⟩ := List.mem_map.mp hx
    obtain ⟨i, _, e⟩ := at_mem hy
    have := h i
    rw [e] at this
    exact Int.natAbs_dvd_natAbs.mpr this)
  rw [gcdL_scale] at h1
  apply Int.natAbs_dvd_natAbs.mp
  rw [Int.natAbs_mul, Int.natAbs_natCast]
  exact h1

/-- two rows of one line: a * r = b * s, both primitive: the same -/
theorem prim_unique {r s : Row} (hr : IsPrim r) (hs : IsPrim s) (hl : r.length = s.length) {a b : Int} (_ha : a ≠ 0) (hb : b ≠ 0) (h : ∀ i, a * at_ r i = b * at_ s i) : r = s := by
  have h1 : a ∣ b := by
    have := dvd_mul_gcd (r := s) (d := a) (a := b) (fun i => ⟨at_ r i, (h i).symm⟩)
    rw [hs.1] at this
    simpa using this
  have h2 : b ∣ a := by
    have := dvd_mul_gcd (r := r) (d := b) (a := a) (fun i => ⟨at_ s i, h i⟩)
    rw [hr.1] at this
    simpa using this
  have e0 : a.natAbs = b.natAbs := Nat.dvd_antisymm (Int.natAbs_dvd_natAbs.mpr h1) (Int.natAbs_dvd_natAbs.mpr h2)
  rcases Int.natAbs_eq_natAbs_iff.mp e0 with e | e
  · apply ext_at hl
    intro i
    have := h i
    rw [e] at this
    exact Int.eq_of_mul_eq_mul_left hb this
  · exfalso
    have hneg : ∀ i, at_ r i = - at_ s i := fun i => by
      have := h i
      rw [e, Int.neg_mul, ← Int.mul_neg, ] at this
      have := Int.eq_of_mul_eq_mul_left hb this
      omega
    have hlead : lead r = lead s := lead_eq (fun i hi => by rw [hneg, lead_before hi]; rfl) (fun z => by
      rw [hneg] at z
      exact lead_ne hs.nz (by omega))
    have p1 := hr.2
    have p2 := hs.2
    unfold leadV at p1 p2
    rw [hlead, hneg] at p1
    omega
/-- the primitive multiple of a multiple -/
theorem prim_scale {r : Row} {c : Int} (hc : c ≠ 0) : prim (r.map (c * ·)) = prim r := by
  by_cases h : isZ r
  · have : r.map (c * ·) = r := by
      apply ext_at (by simp)
      intro i
      rw [at_map (f := fun x => c * x) (by simp), h i, Int.mul_zero]
    rw [this]
  · have hat : ∀ i, at_ (r.map (c * ·)) i = c * at_ r i := fun i => at_map (f := fun x => c * x) (by simp) r i
    have hz : ¬ isZ (r.map (c * ·)) := fun z => h (fun i => by
      have := z i
      rw [hat] at this
      rcases Int.mul_eq_zero.mp this with q | q
      · exact absurd q hc
      · exact q)
    have g1 : (gcdL (r.map (c * ·)) : Int) ≠ 0 := by have := gcd_pos hz; omega
    have g2 : (gcdL r : Int) ≠ 0 := by have := gcd_pos h; omega
    refine prim_unique (prim_isPrim hz) (prim_isPrim h) (by simp [prim_len]) (a := sgn (leadV (r.map (c * ·))) * gcdL (r.map (c * ·))) (b := c * (sgn (leadV r) * gcdL r)) ?_ ?_ ?_
    · exact Int.mul_ne_zero (sgn_ne _) g1
    · exact Int.mul_ne_zero hc (Int.mul_ne_zero (sgn_ne _) g2)
    · intro i
      rw [prim_mul' hz, hat, Int.mul_assoc, prim_mul' h]
/-- two rows with a * r = b * s have one primitive multiple -/
theorem prim_line {r s : Row} (hl : r.length = s.length) {a b : Int} (ha : a ≠ 0) (hb : b ≠ 0) (h : ∀ i, a * at_ r i = b * at_ s i) : prim r = prim s := by
  have e : r.map (a * ·) = s.map (b * ·) := by
    apply ext_at (by simp [hl])
    intro i
    rw [at_map (f := fun x => a * x) (by simp), at_map (f := fun x => b * x) (by simp)]
    exact h i
  rw [← prim_scale (r := r) ha, e, prim_scale hb]
theorem natAbs_prim_le (r : Row) (i : Nat) : (at_ (prim r) i).natAbs ≤ (at_ r i).natAbs := by
  by_cases h : isZ r
  · rw [prim_z h]; exact Nat.le_refl _
  · have e := congrArg Int.natAbs (prim_mul' h i)
    rw [Int.natAbs_mul] at e
    by_cases z : at_ (prim r) i = 0
    · rw [z]; simp
    · have : 1 ≤ (sgn (leadV r) * (gcdL r : Int)).natAbs := by
        have g2 : (gcdL r : Int) ≠ 0 := by have := gcd_pos h; omega
        have := Int.mul_ne_zero (sgn_ne (leadV r)) g2
        omega
      rw [← e]
      exact Nat.le_mul_of_pos_left _ this
end RX
namespace K21
open PySem PySem.Spec PyProof.Rows L2 Evl AX
def topS (i : Nat) : Stmt := PySem.Challenge.pw_whosees_k25_spaces_together.main.body.getD i (.Pass ⟨0, 0, 0, 0⟩)
abbrev sIsInt : Stmt := topS 6
abbrev sIsRow : Stmt := topS 7
abbrev sCF : Stmt := topS 8
abbrev sPrim : Stmt := topS 9
theorem scCF : FnScope ["one", "other"] ["one", "other"] (defScope sCF) := ⟨rfl, rfl, rfl, by decide +kernel, rfl, by decide +kernel, by decide +kernel⟩
section
variable {P : Program} {w : World} {S : Sig} {mg : Str → Option Value} {base : Heap}
def W_cf : AW1 := fun avs k => ∃ a b : Int, avs = [.imm (.int a), .imm (.int b)] ∧ k [] (.imm (.int (Int.gcd a b)))
theorem ok_cf {f : Addr} {fd : FuncData} (F : L2.Fun S.K "common_factor" "common_factor" sCF f fd) (ma : mg "abs" = none) : FnOk P w S.K mg base CX0 1 f fd ["one", "other"] (spA S 2 W_cf) := by
  refine fn_ok F scCF fun cdv A outer s H E hr avs kk hl ⟨a, b, ha, hk⟩ => ?_
  subst ha
  refine Do.cons (DoS.par 0 1 scCF.nd rfl (AA.cons (AE.bi call_abs ma (by decide +kernel) (AA.cons (AE.var 0 rfl (AA.nil ⟨[.int a], _, rfl, pc_abs.n, ?_⟩))))))
  refine AA.cons (AE.bi call_abs ma (by decide +kernel) (AA.cons (AE.var 1 rfl (AA.nil ⟨[.int b], _, rfl, pc_abs.n, ?_⟩))))
  refine AA.nil ⟨_, _, rfl, ?_⟩
  show Do S _ _ [some (.imm (.int (if a < 0 then -a else a))), some (.imm (.int (if b < 0 then -b else b)))] _
  have na : ∀ x : Int, (if x < 0 then -x else x) = (x.natAbs : Int) := fun x => by split <;> omega
  rw [na, na]
  refine Do.cons (DoS.while PassesOwn.never (fun m δ => ∃ x y : Nat, δ = [some (.imm (.int x)), some (.imm (.int y))] ∧ Nat.gcd x y = Int.gcd a b ∧ m = y) _ ⟨_, _, rfl, rfl, rfl⟩ ?_)
  rintro m δ ⟨x, y, rfl, hg, rfl⟩
  refine AT.cmp op_ne (AE.var 1 rfl (AE.int ⟨_, p2_neI, ?_⟩))
  by_cases h : m = 0
  · subst h
    rw [if_neg (by simp)]
    refine Do.one (DoS.ret (AE.var 0 rfl ⟨[], fun j o h => by simp at h, rfl, ?_⟩))
    rw [Nat.gcd_zero_right] at hg
    rw [hg]; exact hk
  · rw [if_pos (by simp [h])]
    refine Do.one (DoS.par 0 1 scCF.nd rfl (AA.cons (AE.var 1 rfl (AA.cons (AE.bin op_modN (AE.var 0 rfl (AE.var 1 rfl ⟨_, p2_ciii (by omega), AA.nil ⟨_, _, rfl, ?_⟩⟩)))))))
    have e : ((x : Int).fmod (m : Int)) = ((x % m : Nat) : Int) := by rw [Int.fmod_eq_emod_of_nonneg _ (by omega)]; rfl
    rw [e]
    exact ⟨x % m, Nat.mod_lt _ (by omega), m, x % m, rfl, by rw [← hg, Nat.gcd_comm x m, Nat.gcd_rec m x, Nat.gcd_comm], rfl⟩
end
end K21
/-! The program's elimination on rows, as plain Lean. -/
namespace RX
/-- row * other[ℓ] - other * row[ℓ] -/
def elim (r o : Row) (l : Nat) : Row := List.zipWith (fun x y => x * at_ o l - y * at_ r l) r o
def wo (r o : Row) (l : Nat) : Row := if at_ r l = 0 then r else prim (elim r o l)
def redF (rows : List Row) (r : Row) : Row := rows.foldl (fun r o => wo r o (lead o)) r
def isZb (r : Row) : Bool := r.all fun x => decide (x = 0)
/-- put in by the leads -/
def ins (r : Row) : List Row → List Row
  | [] => [r]
  | s :: ss => if lead r ≤ lead s then r :: s :: ss else s :: ins r ss
def addR (rows : List Row) (r : Row) : List Row := if isZb (prim (redF rows r)) = true then rows else ins (prim (redF rows r)) (rows.map fun o => wo o (prim (redF rows r)) (lead (prim (redF rows r))))
def redR (some : List Row) : List Row := some.foldl addR []
/-- small enough for a division -/
def big : Nat := 13400
def Sm (r : Row) : Prop := ∀ x ∈ r, x.natAbs < 2 ^ big
/-- along the reduction of r by the rows -/
def SmF : List Row → Row → Prop
  | [], r => Sm r
  | o :: os, r => Sm r ∧ Sm o ∧ Sm (elim r o (lead o)) ∧ SmF os (wo r o (lead o))
def SmA (rows : List Row) (r : Row) : Prop := SmF rows r ∧ (∀ o ∈ rows, Sm (elim o (prim (redF rows r)) (lead (prim (redF rows r)))))
def SmR : List Row → List Row → Prop
  | _, [] => True
  | rows, r :: rs => SmA rows r ∧ SmR (addR rows r) rs
theorem isZb_iff {r : Row} : isZb r = true ↔ isZ r := by
  unfold isZb
  rw [List.all_eq_true, isZ_iff]
  constructor
  · intro h x hx; simpa using h x hx
  · intro h x hx; simpa using h x hx
theorem elim_len {r o : Row} (l : Nat) (h : r.length = o.length) : (elim r o l).length = r.length := by unfold elim; rw [List.length_zipWith, h]; simp
theorem wo_len {r o : Row} (l : Nat) (h : r.length = o.length) : (wo r o l).length = r.length := by
  unfold wo; split
  · rfl
  · rw [prim_len, elim_len l h]
theorem redF_len {w : Nat} : ∀ {rows : List Row} {r : Row}, (∀ o ∈ rows, o.length = w) → r.length = w → (redF rows r).length = w
  | [], r, _, h => h
  | o :: os, r, ho, h => redF_len (rows := os) (fun x hx => ho x (List.mem_cons_of_mem _ hx)) (by rw [wo_len _ (by rw [h, ho o (by simp)]), h])
theorem Sm.prim {r : Row} (h : Sm r) : Sm (prim r) := fun x hx => by
  obtain ⟨i, hi, rfl⟩ := at_mem hx
  rw [prim_len] at hi
  exact Nat.lt_of_le_of_lt (natAbs_prim_le r i) (h _ (mem_at hi))
theorem Sm.at {r : Row} (h : Sm r) (i : Nat) : (at_ r i).natAbs < 2 ^ big := by
  by_cases hi : i < r.length
  · exact h _ (mem_at hi)
  · rw [at_ge (by omega)]; exact Nat.two_pow_pos _
theorem Sm.wo {r o : Row} {l : Nat} (h : Sm r) (h2 : Sm (elim r o l)) : Sm (wo r o l) := by
  unfold RX.wo; split
  · exact h
  · exact h2.prim
theorem SmF.here : ∀ {rows : List Row} {r : Row}, SmF rows r → Sm r
  | [], _, h => h
  | _ :: _, _, h => h.1
theorem SmF.last : ∀ {rows : List Row} {r : Row}, SmF rows r → Sm (redF rows r)
  | [], _, h => h
  | o :: os, r, h => SmF.last (rows := os) h.2.2.2
end RX
namespace RX
/-- the numbers that are not 0: the first is the lead's -/
theorem first_ne : ∀ {r : Row}, ¬ isZ r → (r.filter fun x => decide (x ≠ 0))[0]? = some (leadV r)
  | [], h => absurd (fun i => by simp [at_]) h
  | x :: r, h => by
    by_cases hx : x = 0
    · subst hx
      have hr : ¬ isZ r := fun z => h fun i => by
        cases i with
        | zero => rfl
        | succ i => exact z i
      have e : leadV (0 :: r) = leadV r := by
        have : lead (0 :: r) = lead r + 1 := by unfold lead; simp [List.findIdx_cons]
        unfold leadV; rw [this]; rfl
      rw [e, List.filter_cons_of_neg (by simp)]
      exact first_ne hr
    · have e : leadV (x :: r) = x := by
        have : lead (x :: r) = 0 := by unfold lead; simp [List.findIdx_cons, hx]
        unfold leadV; rw [this]; rfl
      rw [e, List.filter_cons_of_pos (by simpa using hx)]
      rfl
end RX
namespace RX
theorem gcd_lt {r : Row} (h : ¬ isZ r) (hs : Sm r) : gcdL r < 2 ^ big := by
  have hl := lead_lt h
  have h1 : gcdL r ∣ (at_ r (lead r)).natAbs := gcdL_dvd (mem_at hl)
  have h2 : (at_ r (lead r)).natAbs ≠ 0 := fun z => lead_ne h (by omega)
  exact Nat.lt_of_le_of_lt (Nat.le_of_dvd (Nat.pos_of_ne_zero h2) h1) (hs _ (mem_at hl))
theorem prim_get {r : Row} (h : ¬ isZ r) {i : Nat} {n m : Int} (h1 : r[i]? = some n) (h2 : (prim r)[i]? = some m) : m = sgn (leadV r) * n / (gcdL r : Int) := by
  unfold prim at h2
  rw [if_neg (gcd_pos h), List.getElem?_map, h1] at h2
  exact (Option.some.inj h2).symm
end RX
namespace K21
open PySem PySem.Spec PyProof.Rows L2 Evl AX
open RX (at_ prim gcdL lead isZ)
/-- a row as data -/
abbrev dR (r : RX.Row) : DV := .tup (r.map DV.int)
theorem atI_nat {ds : List DV} {i : Nat} {d : DV} (h : ds[i]? = some d) : atI ds (i : Int) = some d := by
  have hi : i < ds.length := (List.getElem?_eq_some_iff.mp h).1
  unfold atI ixN
  rw [if_pos (by omega), if_pos (by omega)]
  exact h
def nzD : DV → Option DV
  | .int n => if n = 0 then none else some (.int n)
  | _ => none
theorem nzD_map : ∀ r : RX.Row, (r.map DV.int).filterMap nzD = (r.filter fun x => decide (x ≠ 0)).map DV.int
  | [] => rfl
  | x :: r => by
    by_cases h : x = 0
    · rw [List.map_cons, List.filterMap_cons, List.filter_cons_of_neg (by simpa using h), show nzD (.int x) = none from if_pos h]; exact nzD_map r
    · rw [List.map_cons, List.filterMap_cons, List.filter_cons_of_pos (by simpa using h), show nzD (.int x) = some (.int x) from if_neg h, List.map_cons]
      exact congrArg _ (nzD_map r)
theorem scIsInt : FnScope ["value"] ["value"] (defScope sIsInt) := ⟨rfl, rfl, rfl, by decide +kernel, rfl, by decide +kernel, by decide +kernel⟩
theorem scIsRow : FnScope ["value", "width", "one"] ["value", "width"] (defScope sIsRow) := ⟨rfl, rfl, rfl, by decide +kernel, rfl, by decide +kernel, by decide +kernel⟩
theorem scPrim : FnScope ["row", "factor", "one", "first", "sign"] ["row"] (defScope sPrim) := ⟨rfl, rfl, rfl, by decide +kernel, rfl, by decide +kernel, by decide +kernel⟩
section
variable {P : Program} {w : World} {S : Sig} {mg : Str → Option Value} {base : Heap}
def W_isint : AW1 := fun avs k => ∃ i : Int, avs = [.imm (.int i)] ∧ k [] (.imm (.bl true))
theorem ok_isint {f : Addr} {fd : FuncData} (F : L2.Fun S.K "is_integer" "is_integer" sIsInt f fd) (m1 : mg "isinstance" = none) (m2 : mg "int" = none) (m3 : mg "bool" = none) : FnOk P w S.K mg base CX0 1 f fd ["value"] (spA S 1 W_isint) := by
  refine fn_ok F scIsInt fun cdv A outer s H E hr avs kk hl ⟨i, ha, hk⟩ => ?_
  subst ha
  refine Do.one (DoS.ret (AE.and ?_))
  refine AE.bi call_isi m1 (by decide +kernel) (AA.cons (AE.var 0 rfl (AA.cons (AE.ty m2 (by decide +kernel) (AA.nil ⟨[.int i, .raw (.ty "int")], _, rfl, (pc_isi (T := "int") (b := true) rfl (kit_ty (by decide +kernel))).n, true, rfl, ?_⟩)))))
  rw [if_pos rfl]
  refine AE.one (AE.not (AE.bi call_isi m1 (by decide +kernel) (AA.cons (AE.var 0 rfl (AA.cons (AE.ty m3 (by decide +kernel) (AA.nil ⟨[.int i, .raw (.ty "bool")], _, rfl, (pc_isi (T := "int") (b := false) rfl (kit_ty (by decide +kernel))).n, false, rfl, fin0 rfl hk⟩)))))))
def W_isrow : AW1 := fun avs k => ∃ r : RX.Row, r.length ≤ 1000 ∧ avs = [.imm (dR r), .imm (.int r.length)] ∧ k [] (.imm (.bl true))
theorem ok_isrow {f : Addr} {fd : FuncData} (F : L2.Fun S.K "is_row" "is_row" sIsRow f fd) (C : Can P w mg base S 1 "is_integer" ["value"] W_isint) (m1 : mg "isinstance" = none) (m2 : mg "tuple" = none) (m3 : mg "len" = none) (m4 : mg "all" = none) : FnOk P w S.K mg base CX0 2 f fd ["value", "width"] (spA S 2 W_isrow) := by
  refine fn_ok F scIsRow fun cdv A outer s H E hr avs kk hl ⟨r, hz, ha, hk⟩ => ?_
  subst ha
  refine Do.one (DoS.ret (AE.and ?_))
  refine AE.bi call_isi m1 (by decide +kernel) (AA.cons (AE.var 0 rfl (AA.cons (AE.ty m2 (by decide +kernel) (AA.nil ⟨[dR r, .raw (.ty "tuple")], _, rfl, (pc_isi (T := "tuple") (b := true) rfl (kit_ty (by decide +kernel))).n, true, rfl, ?_⟩)))))
  rw [if_pos rfl]
  refine AE.and (AE.cmp op_eq (AE.bi call_len_seq m3 PySem.boot_len (AA.cons (AE.var 0 rfl (AA.nil ⟨[dR r], _, rfl, (pc_len rfl).n, AE.var 1 rfl ⟨_, p2_eqI, _, rfl, ?_⟩⟩)))))
  rw [if_pos (by simp)]
  refine AE.one (AE.bi (cr_all rfl) m4 (by decide +kernel) (AA.cons (AF.imm (AF.lcT [("one", 2)] rfl scIsRow.nd rfl (blkOk_by (N := ["value", "width", "one"]) (sc := defScope sIsRow) (by decide +kernel)) (AE.var 0 rfl ⟨_, rfl, Comp.to [2] ((List.replicate r.length true).map DV.bl) (by decide) (by simp) (by simp; omega) (noOwn rfl) ?_ ?_⟩)))))
  · intro i x y hx hy s0 H0 C0 cl fp
    obtain ⟨n, hn, rfl⟩ := map_get hx
    obtain ⟨b, hb, rfl⟩ := map_get hy
    have hb : b = true := by
      have := List.mem_of_getElem? hb
      exact (List.mem_replicate.mp this).2
    subst hb
    exact AG.name 2 scIsRow.nd fun s0 H0 C0 cl fp => ATs.nil ⟨rfl, fun s0 H0 C0 cl fp => AE.call C hr rfl (AA.cons (AE.var 2 rfl (AA.nil ⟨OkA.d rfl rfl, n, rfl, _, rfl, rfl, rfl⟩)))⟩
  · refine ⟨_, rfl, AA.nil ⟨[.lst _], _, rfl, (pc_all rfl).n, fin0 rfl ?_⟩⟩
    have : (List.replicate r.length true).all id = true := by simp
    rw [this]; exact hk
def W_prim : AW1 := fun avs k => ∃ r : RX.Row, r.length ≤ 1000 ∧ RX.Sm r ∧ avs = [.imm (dR r)] ∧ k [] (.imm (dR (prim r)))
theorem ok_prim {f : Addr} {fd : FuncData} (F : L2.Fun S.K "primitive" "primitive" sPrim f fd) (C : Can P w mg base S 1 "common_factor" ["one", "other"] W_cf) (m1 : mg "tuple" = none) : FnOk P w S.K mg base CX0 2 f fd ["row"] (spA S 1 W_prim) := by
  refine fn_ok F scPrim fun cdv A outer s H E hr avs kk hl ⟨r, hz, hsm, ha, hk⟩ => ?_
  subst ha
  refine Do.cons (DoS.set 1 scPrim.nd (AE.int ?_))
  show Do S _ _ [some (.imm (dR r)), some (.imm (.int 0)), none, none, none] _
  refine Do.cons (DoS.forT rfl rfl PassesOwn.never (AE.var 0 rfl ⟨_, rfl, fun i δ => ∃ o : Option Int, δ = [some (.imm (dR r)), some (.imm (.int ((r.take i).foldl (fun g x => Nat.gcd g x.natAbs) 0 : Nat))), o.map fun n => .imm (.int n), none, none], ⟨none, rfl⟩, ?_, ?_⟩))
  · rintro i x δ2 hx ⟨o, rfl⟩
    obtain ⟨n, hn, rfl⟩ := map_get hx
    refine ⟨[2], AG.name 2 scPrim.nd ?_⟩
    refine Do.one (DoS.set 1 scPrim.nd (AE.call C hr rfl (AA.cons (AE.var 1 rfl (AA.cons (AE.var 2 rfl (AA.nil ⟨OkA.d rfl rfl, _, n, rfl, _, rfl, ?_⟩)))))))
    refine ⟨some n, ?_⟩
    rw [List.take_add_one, hn]
    show _ = _
    simp [List.foldl_append, Int.gcd, backI, ownI]
  · rintro δ2 ⟨o, rfl⟩
    rw [List.length_map, List.take_length]
    show Do S _ _ [some (.imm (dR r)), some (.imm (.int (gcdL r : Nat))), o.map fun n => .imm (.int n), none, none] _
    refine Do.cons (DoS.ite (AT.cmp op_eq (AE.var 1 rfl (AE.int ⟨_, p2_eqI, ?_⟩))))
    by_cases hg : gcdL r = 0
    · rw [if_pos (by simp [hg])]
      refine Do.one (DoS.ret (AE.var 0 rfl (fin0 rfl ?_)))
      have : prim r = r := if_pos hg
      rw [this] at hk; exact hk
    · rw [if_neg (by simp; omega)]
      have nz : ¬ isZ r := fun z => hg (RX.gcdL_zero.mpr (RX.isZ_iff.mp z))
      refine Do.nil ?_
      have scn := blkOk_by (N := ["row", "factor", "one", "first", "sign"]) (sc := defScope sPrim) (scope := ⟨.function, [(".0", .local), ("one", .local)], false, false, []⟩) (own := [("one", 2)]) (by decide +kernel)
      refine Do.cons (DoS.set 3 scPrim.nd (AE.sub ix_list (AF.imm (AF.lcT [("one", 2)] rfl scPrim.nd rfl scn (AE.var 0 rfl ⟨_, rfl, Comp.filt [2] nzD (by decide) (by simp; omega) (noOwn (by cases o <;> rfl)) ?_ ?_⟩)))))
      · intro i x hx s0 H0 C0 cl fp
        obtain ⟨n, hn, rfl⟩ := map_get hx
        refine AG.name 2 scPrim.nd fun s0 H0 C0 cl fp => ATs.one (AT.cmp op_ne (AE.var 2 rfl (AE.int ⟨_, p2_neI, rfl, ?_⟩)))
        by_cases h0 : n = 0
        · rw [if_neg (by simp [h0])]; exact if_pos h0
        · rw [if_pos (by simp [h0])]
          exact fun s0 H0 C0 cl fp => AE.var 2 rfl ⟨rfl, if_neg h0⟩
      · rw [nzD_map]
        refine ⟨_, rfl, AE.int ⟨.int (RX.leadV r), p2_ixL ?_, ?_⟩⟩
        · exact atI_nat (i := 0) (by rw [List.getElem?_map, RX.first_ne nz] <;> rfl)
        show Do S _ _ [some (.imm (dR r)), some (.imm (.int (gcdL r : Nat))), o.map fun n => .imm (.int n), some (.imm (.int (RX.leadV r))), none] _
        refine Do.cons (DoS.set 4 scPrim.nd (AE.ite (AT.cmp op_gt (AE.var 3 rfl (AE.int ⟨_, p2_iib, ?_⟩)))))
        have go : ∀ δ, δ = [some (.imm (dR r)), some (.imm (.int (gcdL r : Nat))), o.map fun n => .imm (.int n), some (.imm (.int (RX.leadV r))), some (.imm (.int (RX.sgn (RX.leadV r))))] → Do S (cxOf CX0 P w S.K mg base ["row", "factor", "one", "first", "sign"] "primitive" (defScope sPrim) f cdv A outer s H E).nox ((defBody sPrim).drop 5) δ (AX.Fin [AV.imm (dR r)] kk) := by
          rintro δ rfl
          refine Do.one (DoS.ret (AE.bt call_tuple_of m1 (by decide +kernel) (AA.cons (AF.imm (AF.lcT [("one", 2)] rfl scPrim.nd rfl (blkOk_by (N := ["row", "factor", "one", "first", "sign"]) (sc := defScope sPrim) (by decide +kernel)) (AE.var 0 rfl ⟨_, rfl, Comp.to [2] ((prim r).map DV.int) (by decide) (by simp [RX.prim_len]) (by simp; omega) (noOwn (by cases o <;> rfl)) ?_ ?_⟩))))))
          · intro i x y hx hy s0 H0 C0 cl fp
            obtain ⟨n, hn, rfl⟩ := map_get hx
            obtain ⟨m, hm, rfl⟩ := map_get hy
            refine AG.name 2 scPrim.nd fun s0 H0 C0 cl fp => ATs.nil ⟨rfl, fun s0 H0 C0 cl fp => ?_⟩
            refine AE.bin op_fdivX (AE.bin op_mulW (AE.var 4 rfl (AE.var 2 rfl ⟨_, p2_ciii ?_, AE.var 1 rfl ⟨_, p2_ciii ?_, rfl, ?_⟩⟩)))
            · exact wide_mul (a := 1) (b := RX.big) (by unfold RX.sgn; split <;> decide) (hsm n (List.mem_of_getElem? hn)) (by decide) (by decide) (by decide)
            · have e : (RX.sgn (RX.leadV r) * n).natAbs = n.natAbs := by unfold RX.sgn; split <;> simp
              exact wide_divX (a := RX.big) (by omega) (by rw [e]; exact hsm n (List.mem_of_getElem? hn)) (by decide) (by decide)
            · rw [RX.prim_get nz hn hm]
          · refine ⟨_, rfl, AA.nil ⟨[.lst _], _, rfl, pcn_tuple (.inl rfl), fin0 rfl hk⟩⟩
        by_cases h0 : RX.leadV r > 0
        · rw [if_pos (by simpa using h0)]
          refine AE.int (go _ ?_)
          simp [RX.sgn, h0]
        · rw [if_neg (by simpa using h0)]
          refine AE.un un_neg (AE.int ⟨_, p1_neg, go _ ?_⟩)
          simp [RX.sgn, h0]
end
end K21
namespace K21
open PySem PySem.Spec PyProof.Rows L2 Evl AX
open RX (at_ prim gcdL lead isZ)
abbrev sLead : Stmt := topS 10
abbrev sWithout : Stmt := topS 11
abbrev sRedBy : Stmt := topS 12
abbrev sAdded : Stmt := topS 13
abbrev sReduced : Stmt := topS 14
theorem scLead : FnScope ["row", "index", "one"] ["row"] (defScope sLead) := ⟨rfl, rfl, rfl, by decide +kernel, rfl, by decide +kernel, by decide +kernel⟩
theorem scWithout : FnScope ["row", "other", "at", "one", "more"] ["row", "other"] (defScope sWithout) := ⟨rfl, rfl, rfl, by decide +kernel, rfl, by decide +kernel, by decide +kernel⟩
theorem scRedBy : FnScope ["rows", "row", "other"] ["rows", "row"] (defScope sRedBy) := ⟨rfl, rfl, rfl, by decide +kernel, rfl, by decide +kernel, by decide +kernel⟩
theorem scAdded : FnScope ["rows", "row", "rest", "found", "other"] ["rows", "row"] (defScope sAdded) := ⟨rfl, rfl, rfl, by decide +kernel, rfl, by decide +kernel, by decide +kernel⟩
theorem scReduced : FnScope ["rows", "width", "found", "row"] ["rows", "width"] (defScope sReduced) := ⟨rfl, rfl, rfl, by decide +kernel, rfl, by decide +kernel, by decide +kernel⟩
/-- what lead answers -/
def dLead (r : RX.Row) : DV := if RX.isZb r = true then .non else .int (lead r)
section
variable {P : Program} {w : World} {S : Sig} {mg : Str → Option Value} {base : Heap}
def W_lead : AW1 := fun avs k => ∃ r : RX.Row, r.length ≤ 1000 ∧ avs = [.imm (dR r)] ∧ k [] (.imm (dLead r))
theorem ok_lead {f : Addr} {fd : FuncData} (F : L2.Fun S.K "lead" "lead" sLead f fd) (m1 : mg "enumerate" = none) : FnOk P w S.K mg base CX0 1 f fd ["row"] (spA S 1 W_lead) := by
  refine fn_ok F scLead fun cdv A outer s H E hr avs kk hl ⟨r, hz, ha, hk⟩ => ?_
  subst ha
  refine Do.cons (DoS.forE rfl rfl PassesOwn.never m1 (AE.var 0 rfl ⟨_, rfl, fun i δ => (∃ o o', δ = [some (.imm (dR r)), o, o']) ∧ ∀ j, j < i → at_ r j = 0, ⟨⟨none, none, rfl⟩, fun j h => by omega⟩, ?_, ?_⟩))
  · rintro i x δ2 hx ⟨⟨o, o', rfl⟩, hb⟩
    obtain ⟨n, hn, rfl⟩ : ∃ n, r[i]? = some n ∧ x = .tup [.int (i : Nat), .int n] := by
      have hi : i < (r.map DV.int).length := by
        have := (List.getElem?_eq_some_iff.mp hx).1
        rwa [enm_len] at this
      have h1 : (r.map DV.int)[i]? = some ((r.map DV.int)[i]) := List.getElem?_eq_getElem hi
      have h2 := enm_get h1
      rw [hx] at h2
      obtain ⟨n, hn, e⟩ := map_get h1
      exact ⟨n, hn, by rw [Option.some.inj h2, e]⟩
    refine ⟨[1, 2], AG.tup rfl rfl (AGs.cons 1 scLead.nd (AGs.cons 2 scLead.nd (AGs.nil ?_)))⟩
    refine Do.one (DoS.ite (AT.cmp op_ne (AE.var 2 rfl (AE.int ⟨_, p2_neI, ?_⟩))))
    have ea : at_ r i = n := by unfold RX.at_; rw [List.getD_eq_getElem?_getD, hn] <;> rfl
    by_cases h0 : n = 0
    · rw [if_neg (by simp [h0])]
      refine Do.nil ⟨⟨_, _, rfl⟩, fun j hj => ?_⟩
      rcases Nat.lt_or_eq_of_le (Nat.le_of_lt_succ hj) with q | q
      · exact hb j q
      · rw [q, ea, h0]
    · rw [if_pos (by simp [h0])]
      refine Do.one (DoS.ret (AE.var 1 rfl (fin0 rfl ?_)))
      have el : lead r = i := RX.lead_eq hb (by rw [ea]; exact h0)
      have : dLead r = .int (i : Nat) := by
        unfold dLead
        rw [if_neg (fun z => h0 (by rw [← ea]; exact RX.isZb_iff.mp z i)), el]
      rw [this] at hk; exact hk
  · rintro δ2 ⟨⟨o, o', rfl⟩, hb⟩
    rw [enm_len, List.length_map] at hb
    refine Do.one (DoS.ret (AE.non (fin0 rfl ?_)))
    have : dLead r = .non := if_pos (RX.isZb_iff.mpr fun i => by
      by_cases hi : i < r.length
      · exact hb i hi
      · exact RX.at_ge (by omega))
    rw [this] at hk; exact hk
def W_wo : AW1 := fun avs k => ∃ r o : RX.Row, r.length = o.length ∧ r.length ≤ 1000 ∧ ¬ isZ o ∧ RX.Sm r ∧ RX.Sm o ∧ RX.Sm (RX.elim r o (lead o)) ∧ avs = [.imm (dR r), .imm (dR o)] ∧ k [] (.imm (dR (RX.wo r o (lead o))))
theorem ok_wo {f : Addr} {fd : FuncData} (F : L2.Fun S.K "without" "without" sWithout f fd) (C1 : Can P w mg base S 1 "lead" ["row"] W_lead) (C2 : Can P w mg base S 2 "primitive" ["row"] W_prim) (m1 : mg "tuple" = none) (m2 : mg "zip" = none) : FnOk P w S.K mg base CX0 3 f fd ["row", "other"] (spA S 2 W_wo) := by
  refine fn_ok F scWithout fun cdv A outer s H E hr avs kk hl ⟨r, o, hl2, hz, nz, s1, s2, s3, ha, hk⟩ => ?_
  subst ha
  have hd : dLead o = .int (lead o) := if_neg fun z => nz (RX.isZb_iff.mp z)
  refine Do.cons (DoS.set 2 scWithout.nd (AE.call C1 (hr.mono (by decide)) rfl (AA.cons (AE.var 1 rfl (AA.nil ⟨OkA.d rfl rfl, o, by omega, rfl, _, rfl, ?_⟩)))))
  rw [hd]
  show Do S _ _ [some (.imm (dR r)), some (.imm (dR o)), some (.imm (.int (lead o))), none, none] _
  have hlo := RX.lead_lt nz
  have ix : ∀ t : RX.Row, lead o < t.length → atI (t.map DV.int) (lead o : Nat) = some (.int (at_ t (lead o))) := fun t ht => atI_nat (by rw [List.getElem?_map, List.getElem?_eq_getElem ht, RX.at_eq_get ht] <;> rfl)
  refine Do.cons (DoS.ite (AT.cmp op_eq (AE.sub ix_tup (AE.var 0 rfl (AE.var 2 rfl ⟨_, p2_ixT (ix r (by omega)), AE.int ⟨_, p2_eqI, ?_⟩⟩)))))
  by_cases h0 : at_ r (lead o) = 0
  · rw [if_pos (by simp [h0])]
    refine Do.one (DoS.ret (AE.var 0 rfl (fin0 rfl ?_)))
    have : RX.wo r o (lead o) = r := if_pos h0
    rw [this] at hk; exact hk
  · rw [if_neg (by simp [h0])]
    refine Do.nil ?_
    have e1 : RX.wo r o (lead o) = prim (RX.elim r o (lead o)) := if_neg h0
    rw [e1] at hk
    refine Do.one (DoS.ret (AE.call C2 hr rfl (AA.cons (AE.bt call_tuple_of m1 (by decide +kernel) (AA.cons (AF.imm (AF.lcZ [("one", 3), ("more", 4)] rfl scWithout.nd rfl m2 (blkOk_by (N := ["row", "other", "at", "one", "more"]) (sc := defScope sWithout) (by decide +kernel)) (AE.var 0 rfl (AE.var 1 rfl ⟨_, _, rfl, rfl, by simpa using hl2, Comp.to [3, 4] ((RX.elim r o (lead o)).map DV.int) (by decide) (by unfold RX.elim prs; simp) (by unfold prs; simp; omega) (noOwn rfl) ?_ ?_⟩)))))))))
    · intro i x y hx hy s0 H0 C0 cl fp
      have hi : i < r.length := by
        have := (List.getElem?_eq_some_iff.mp hx).1
        unfold prs at this; simp at this; omega
      have hx2 := prs_get (xs := r.map DV.int) (ys := o.map DV.int) (i := i) (x := .int r[i]) (y := .int (o[i]'(by omega))) (by rw [List.getElem?_map, List.getElem?_eq_getElem hi] <;> rfl) (by rw [List.getElem?_map, List.getElem?_eq_getElem (by omega)] <;> rfl)
      rw [hx] at hx2; cases hx2
      have hy2 : y = .int (r[i] * at_ o (lead o) - o[i]'(by omega) * at_ r (lead o)) := by
        rw [List.getElem?_map] at hy
        unfold RX.elim at hy
        rw [List.getElem?_zipWith, List.getElem?_eq_getElem hi, List.getElem?_eq_getElem (by omega)] at hy
        exact (Option.some.inj hy).symm
      subst hy2
      refine AG.tup rfl rfl (AGs.cons 3 scWithout.nd (AGs.cons 4 scWithout.nd (AGs.nil ?_)))
      refine fun s0 H0 C0 cl fp => ATs.nil ⟨rfl, fun s0 H0 C0 cl fp => ?_⟩
      refine AE.bin op_sub (AE.bin op_mulW (AE.var 3 rfl (AE.sub ix_tup (AE.var 1 rfl (AE.var 2 rfl ⟨_, p2_ixT (ix o hlo), _, p2_ciii ?_, ?_⟩)))))
      · exact wide_mul (a := RX.big) (b := RX.big) (s1 _ (List.getElem_mem hi)) (s2.at _) (by decide) (by decide) (by decide)
      · refine AE.bin op_mulW (AE.var 4 rfl (AE.sub ix_tup (AE.var 0 rfl (AE.var 2 rfl ⟨_, p2_ixT (ix r (by omega)), _, p2_ciii ?_, _, p2_iii, rfl, rfl⟩))))
        exact wide_mul (a := RX.big) (b := RX.big) (s2 _ (List.getElem_mem (by omega))) (s1.at _) (by decide) (by decide) (by decide)
    · refine ⟨_, rfl, AA.nil ⟨[.lst _], _, rfl, pcn_tuple (.inl rfl), AA.nil ⟨OkA.d rfl rfl, RX.elim r o (lead o), by rw [RX.elim_len _ hl2]; exact hz, s3, rfl, _, rfl, fin0 rfl hk⟩⟩⟩
end
end K21
/-! Reduced rows: what the elimination keeps. -/
namespace RX
theorem elim_at {r o : Row} (h : r.length = o.length) (l i : Nat) : at_ (elim r o l) i = at_ r i * at_ o l - at_ o i * at_ r l := by
  by_cases hi : i < r.length
  · have h2 : i < o.length := by omega
    rw [at_eq_get (r := elim r o l) (by rw [elim_len l h]; exact hi), at_eq_get hi, at_eq_get h2]
    unfold elim
    rw [List.getElem_zipWith]
  · rw [at_ge (r := elim r o l) (by rw [elim_len l h]; omega), at_ge (r := r) (i := i) (by omega), at_ge (r := o) (i := i) (by omega)]
    simp
/-- the step, as a relation of numbers -/
theorem wo_rel {r o : Row} (h : r.length = o.length) {l : Nat} (hl : at_ o l ≠ 0) : ∃ a c d : Int, a ≠ 0 ∧ c ≠ 0 ∧ ∀ i, a * at_ (wo r o l) i = c * at_ r i - d * at_ o i := by
  unfold wo
  by_cases h0 : at_ r l = 0
  · rw [if_pos h0]
    exact ⟨1, 1, 0, by decide, by decide, fun i => by simp⟩
  · rw [if_neg h0]
    by_cases hz : isZ (elim r o l)
    · rw [prim_z hz]
      exact ⟨1, at_ o l, at_ r l, by decide, hl, fun i => by rw [elim_at h, Int.one_mul, Int.mul_comm (at_ r i), Int.mul_comm (at_ o i)]⟩
    · have hg : (gcdL (elim r o l) : Int) ≠ 0 := by have := gcd_pos hz; omega
      exact ⟨_, at_ o l, at_ r l, Int.mul_ne_zero (sgn_ne _) hg, hl, fun i => by rw [prim_mul' hz, elim_at h, Int.mul_comm (at_ r i), Int.mul_comm (at_ o i)]⟩
theorem wo_zero {r o : Row} (h : r.length = o.length) (l : Nat) : at_ (wo r o l) l = 0 := by
  unfold wo
  by_cases h0 : at_ r l = 0
  · rw [if_pos h0]; exact h0
  · rw [if_neg h0, prim_at_zero, elim_at h, Int.mul_comm]
    omega
theorem wo_keep {r o : Row} (h : r.length = o.length) (l : Nat) {j : Nat} (h1 : at_ r j = 0) (h2 : at_ o j = 0) : at_ (wo r o l) j = 0 := by
  unfold wo
  by_cases h0 : at_ r l = 0
  · rw [if_pos h0]; exact h1
  · rw [if_neg h0, prim_at_zero, elim_at h, h1, h2]; simp
/-- rows of one length, primitive, their leads rising, 0 at the others' leads -/
abbrev Bef (r s : Row) : Prop := lead r < lead s ∧ at_ r (lead s) = 0
structure Red (w : Nat) (L : List Row) : Prop where
  each : ∀ r ∈ L, IsPrim r ∧ r.length = w
  pw : L.Pairwise Bef
theorem Red.nil (w : Nat) : Red w [] := ⟨fun r h => by simp at h, .nil⟩
theorem redF_zero {w : Nat} : ∀ {L : List Row} {r : Row}, (∀ o ∈ L, o.length = w) → L.Pairwise (fun r s => lead r < lead s) → r.length = w → (∀ o ∈ L, at_ (redF L r) (lead o) = 0) ∧ ∀ j, at_ r j = 0 → (∀ o ∈ L, at_ o j = 0) → at_ (redF L r) j = 0
  | [], r, _, _, _ => ⟨fun o h => by simp at h, fun j h _ => h⟩
  | o :: os, r, ho, pw, hl => by
    have p := List.pairwise_cons.mp pw
    have e : r.length = o.length := by rw [hl, ho o (by simp)]
    obtain ⟨h1, h2⟩ := redF_zero (L := os) (r := wo r o (lead o)) (fun x hx => ho x (List.mem_cons_of_mem _ hx)) p.2 (by rw [wo_len _ e, hl])
    refine ⟨fun x hx => ?_, fun j hj hz => ?_⟩
    · rcases List.mem_cons.mp hx with rfl | hx
      · exact h2 _ (wo_zero e _) fun y hy => lead_before (p.1 y hy)
      · exact h1 x hx
    · exact h2 j (wo_keep e _ hj (hz o (by simp))) fun y hy => hz y (List.mem_cons_of_mem _ hy)
section
variable {w : Nat} {L : List Row} {r : Row}
theorem Red.lt (R : Red w L) : L.Pairwise fun r s => lead r < lead s := R.pw.imp fun h => h.1
/-- 0 at the other rows' leads -/
theorem Red.off (R : Red w L) {o p : Row} (ho : o ∈ L) (hp : p ∈ L) (ne : lead o ≠ lead p) : at_ o (lead p) = 0 := by
  obtain ⟨i, hi, rfl⟩ := List.getElem_of_mem ho
  obtain ⟨j, hj, rfl⟩ := List.getElem_of_mem hp
  rcases Nat.lt_trichotomy i j with q | q | q
  · exact (List.pairwise_iff_getElem.mp R.pw i j hi hj q).2
  · subst q; exact absurd rfl ne
  · exact lead_before (List.pairwise_iff_getElem.mp R.pw j i hj hi q).1
theorem Red.zero (R : Red w L) (hr : r.length = w) : ∀ o ∈ L, at_ (prim (redF L r)) (lead o) = 0 := fun o ho => (prim_at_zero _).mpr ((redF_zero (fun o h => (R.each o h).2) R.lt hr).1 o ho)
/-- the new row n against a row o of the list: n is 0 at the list's leads -/
structure New1 (L : List Row) (w : Nat) (n : Row) : Prop where
  len : n.length = w
  pr : IsPrim n
  z : ∀ o ∈ L, at_ n (lead o) = 0
theorem New1.ne {n : Row} (N : New1 L w n) {o : Row} (ho : o ∈ L) : lead o ≠ lead n := fun e => by
  have := N.z o ho
  rw [e] at this
  exact lead_ne N.pr.nz this
theorem New1.lead {n : Row} (R : Red w L) (N : New1 L w n) {o : Row} (ho : o ∈ L) : RX.lead (wo o n (RX.lead n)) = RX.lead o ∧ IsPrim (wo o n (RX.lead n)) := by
  have e : o.length = n.length := by rw [(R.each o ho).2, N.len]
  unfold wo
  by_cases h0 : at_ o (RX.lead n) = 0
  · rw [if_pos h0]; exact ⟨rfl, (R.each o ho).1⟩
  · rw [if_neg h0]
    have lt : RX.lead o < RX.lead n := by
      rcases Nat.lt_trichotomy (RX.lead o) (RX.lead n) with q | q | q
      · exact q
      · exact absurd q (N.ne ho)
      · exact absurd (lead_before q) h0
    have el : RX.lead (elim o n (RX.lead n)) = RX.lead o := lead_eq (fun i hi => by
      rw [elim_at e, lead_before hi, lead_before (Nat.lt_trans hi lt)]; simp) (by
      rw [elim_at e, N.z o ho]
      simp only [Int.zero_mul, Int.sub_zero]
      exact Int.mul_ne_zero (lead_ne (R.each o ho).1.nz) (lead_ne N.pr.nz))
    have nz : ¬ isZ (elim o n (RX.lead n)) := fun z => by
      have e1 := lead_z.mpr z
      rw [el, elim_len _ e] at e1
      have := lead_lt (R.each o ho).1.nz
      omega
    exact ⟨by rw [prim_lead, el], prim_isPrim nz⟩
theorem ins_perm (n : Row) : ∀ L : List Row, (ins n L).Perm (n :: L)
  | [] => .refl _
  | s :: ss => by
    unfold ins
    split
    · exact .refl _
    · exact ((ins_perm n ss).cons s).trans (.swap n s ss)
theorem ins_pw {n : Row} : ∀ {L : List Row}, L.Pairwise Bef → (∀ o ∈ L, RX.lead o ≠ RX.lead n ∧ at_ o (RX.lead n) = 0 ∧ at_ n (RX.lead o) = 0) → (ins n L).Pairwise Bef
  | [], _, _ => List.pairwise_singleton _ _
  | s :: ss, pw, h => by
    have p := List.pairwise_cons.mp pw
    unfold ins
    obtain ⟨h1, h2, h3⟩ := h s (by simp)
    by_cases q : RX.lead n ≤ RX.lead s
    · rw [if_pos q]
      refine List.pairwise_cons.mpr ⟨fun y hy => ?_, pw⟩
      refine ⟨?_, (h y hy).2.2⟩
      rcases List.mem_cons.mp hy with rfl | hy
      · omega
      · have := (p.1 y hy).1; omega
    · rw [if_neg q]
      refine List.pairwise_cons.mpr ⟨fun y hy => ?_, ins_pw p.2 fun o ho => h o (List.mem_cons_of_mem _ ho)⟩
      rcases List.mem_cons.mp ((ins_perm n ss).mem_iff.mp hy) with rfl | hy
      · exact ⟨by omega, h2⟩
      · exact p.1 y hy
theorem New1.mk' (R : Red w L) (hr : r.length = w) (h : ¬ isZ (prim (redF L r))) : New1 L w (prim (redF L r)) :=
  ⟨by rw [prim_len]; exact redF_len (fun o h => (R.each o h).2) hr, prim_isPrim (fun z => h (prim_isZ.mpr z)), R.zero hr⟩
theorem New1.red {n : Row} (R : Red w L) (N : New1 L w n) : Red w (ins n (L.map fun o => wo o n (RX.lead n))) := by
  refine ⟨fun x hx => ?_, ins_pw (List.pairwise_map.mpr ?_) fun x hx => ?_⟩
  · rcases List.mem_cons.mp ((ins_perm n _).mem_iff.mp hx) with rfl | hx
    · exact ⟨N.pr, N.len⟩
    · obtain ⟨o, ho, rfl⟩ := List.mem_map.mp hx
      exact ⟨(N.lead R ho).2, by rw [wo_len _ (by rw [(R.each o ho).2, N.len]), (R.each o ho).2]⟩
  · have key : L.Pairwise fun a b => a ∈ L ∧ b ∈ L ∧ Bef a b := by
      have : ∀ {M : List Row}, M.Pairwise Bef → (∀ x ∈ M, x ∈ L) → M.Pairwise fun a b => a ∈ L ∧ b ∈ L ∧ Bef a b := by
        intro M pw
        induction pw with
        | nil => intro _; exact .nil
        | cons h _ ih => intro hm; exact .cons (fun b hb => ⟨hm _ (by simp), hm b (by simp [hb]), h b hb⟩) (ih fun x hx => hm x (by simp [hx]))
      exact this R.pw fun x hx => hx
    refine key.imp fun {a b} ⟨ha, hb, h⟩ => ?_
    refine ⟨by rw [(N.lead R ha).1, (N.lead R hb).1]; exact h.1, ?_⟩
    rw [(N.lead R hb).1]
    exact wo_keep (by rw [(R.each a ha).2, N.len]) _ h.2 (N.z b hb)
  · obtain ⟨o, ho, rfl⟩ := List.mem_map.mp hx
    rw [(N.lead R ho).1]
    exact ⟨N.ne ho, wo_zero (by rw [(R.each o ho).2, N.len]) _, N.z o ho⟩
theorem addR_red (R : Red w L) (hr : r.length = w) : Red w (addR L r) := by
  unfold addR
  split
  · exact R
  · rename_i h
    exact (New1.mk' R hr fun z => h (isZb_iff.mpr z)).red R
end
end RX
namespace K21
open PySem PySem.Spec PyProof.Rows L2 Evl AX
open RX (at_ prim gcdL lead isZ redF wo addR redR)
abbrev dRs (rows : List RX.Row) : DV := .lst (rows.map dR)
theorem sorted_ins {w : Nat} {L : List RX.Row} {n : RX.Row} (R : RX.Red w L) (N : RX.New1 L w n) {ys : List DV} (h : SK.SortedBy (((L.map fun o => wo o n (lead n)) ++ [n]).map fun r => (lead r : Int)) (((L.map fun o => wo o n (lead n)) ++ [n]).map dR) ys) :
    ys = (RX.ins n (L.map fun o => wo o n (lead n))).map dR := by
  obtain ⟨ps, h1, h2, rfl⟩ := h
  have pw := (N.red R).pw
  have hp := RX.ins_perm n (L.map fun o => wo o n (lead n))
  generalize L.map (fun o => wo o n (lead n)) = L' at *
  have ez : ((L' ++ [n]).map fun r => (lead r : Int)).zip ((L' ++ [n]).map dR) = (L' ++ [n]).map fun r => ((lead r : Int), dR r) := by
    exact List.zip_map' ..
  rw [ez] at h1
  have q1 : ((RX.ins n L').map fun r => ((lead r : Int), dR r)).Perm ((L' ++ [n]).map fun r => ((lead r : Int), dR r)) := (hp.trans (List.perm_append_comm (l₁ := [n]))).map _
  have key : ps = (RX.ins n L').map fun r => ((lead r : Int), dR r) := by
    refine List.Perm.eq_of_pairwise (le := fun p q : Int × DV => p.1 ≤ q.1) (fun a b ha hb e1 e2 => ?_) h2 (List.pairwise_map.mpr (pw.imp fun h => by have := h.1; show (_ : Int) ≤ _; omega)) (h1.trans q1.symm)
    obtain ⟨y, hy, rfl⟩ := List.mem_map.mp hb
    obtain ⟨x, hx, rfl⟩ := List.mem_map.mp (q1.symm.mem_iff.mp (h1.mem_iff.mp ha))
    have e : lead x = lead y := by have : (lead x : Int) ≤ lead y := e1; have : (lead y : Int) ≤ lead x := e2; omega
    obtain ⟨i, hi, rfl⟩ := List.getElem_of_mem hx
    obtain ⟨j, hj, rfl⟩ := List.getElem_of_mem hy
    rcases Nat.lt_trichotomy i j with q | q | q
    · have := (List.pairwise_iff_getElem.mp pw i j hi hj q).1; omega
    · subst q; rfl
    · have := (List.pairwise_iff_getElem.mp pw j i hj hi q).1; omega
  rw [key, List.map_map]; rfl
section
variable {P : Program} {w : World} {S : Sig} {mg : Str → Option Value} {base : Heap}
def W_redby : AW1 := fun avs k => ∃ (rows : List RX.Row) (r : RX.Row) (n : Nat), n ≤ 1000 ∧ rows.length ≤ 1000 ∧ (∀ o ∈ rows, o.length = n ∧ ¬ isZ o) ∧ r.length = n ∧ RX.SmF rows r ∧ avs = [.imm (dRs rows), .imm (dR r)] ∧ k [] (.imm (dR (prim (redF rows r))))
theorem smF_drop : ∀ {rows : List RX.Row} {r : RX.Row} (i : Nat), RX.SmF rows r → RX.SmF (rows.drop i) (redF (rows.take i) r)
  | _, _, 0, h => h
  | [], r, i + 1, h => by simpa [RX.redF] using h
  | o :: os, r, i + 1, h => smF_drop (rows := os) i h.2.2.2
theorem redF_take {rows : List RX.Row} {r o : RX.Row} {i : Nat} (h : rows[i]? = some o) : redF (rows.take (i + 1)) r = wo (redF (rows.take i) r) o (lead o) := by
  unfold RX.redF
  rw [List.take_add_one, h, List.foldl_append] <;> rfl
theorem ok_redby {f : Addr} {fd : FuncData} (F : L2.Fun S.K "reduced_by" "reduced_by" sRedBy f fd) (C1 : Can P w mg base S 3 "without" ["row", "other"] W_wo) (C2 : Can P w mg base S 2 "primitive" ["row"] W_prim) : FnOk P w S.K mg base CX0 4 f fd ["rows", "row"] (spA S 2 W_redby) := by
  refine fn_ok F scRedBy fun cdv A outer s H E hr avs kk hl ⟨rows, r, n, hn, hz, ho, hrl, hsm, ha, hk⟩ => ?_
  subst ha
  have hlen : ∀ i, (redF (rows.take i) r).length = n := fun i => RX.redF_len (fun o h => (ho o (List.mem_of_mem_take h)).1) hrl
  refine Do.cons (DoS.forL rfl rfl PassesOwn.never (AE.var 0 rfl ⟨_, rfl, fun i δ => ∃ o, δ = [some (.imm (dRs rows)), some (.imm (dR (redF (rows.take i) r))), o], ⟨none, rfl⟩, ?_, ?_⟩))
  · rintro i x δ2 hx ⟨o, rfl⟩
    obtain ⟨t, ht, rfl⟩ := map_get hx
    have htm : t ∈ rows := List.mem_of_getElem? ht
    refine ⟨[2], AG.name 2 scRedBy.nd ?_⟩
    have hi : i < rows.length := (List.getElem?_eq_some_iff.mp ht).1
    have sm := smF_drop i hsm
    have ed : rows.drop i = t :: rows.drop (i + 1) := by
      rw [List.drop_eq_getElem_cons hi]
      congr 1
      exact Option.some.inj (by rw [← ht]; exact (List.getElem?_eq_getElem hi).symm)
    rw [ed] at sm
    obtain ⟨s1, s2, s3, _⟩ := sm
    refine Do.one (DoS.set 1 scRedBy.nd (AE.call C1 hr rfl (AA.cons (AE.var 1 rfl (AA.cons (AE.var 2 rfl (AA.nil ⟨OkA.d rfl rfl, _, t, by rw [hlen, (ho t htm).1], by rw [hlen]; exact hn, (ho t htm).2, s1, s2, s3, rfl, _, rfl, ?_⟩)))))))
    refine ⟨some (.imm (dR t)), ?_⟩
    rw [redF_take ht] <;> rfl
  · rintro δ2 ⟨o, rfl⟩
    rw [List.length_map, List.take_length]
    have e1 := hlen rows.length
    rw [List.take_length] at e1
    exact Do.one (DoS.ret (AE.call C2 (hr.mono (by decide)) rfl (AA.cons (AE.var 1 rfl (AA.nil ⟨OkA.d rfl rfl, _, by omega, hsm.last, rfl, _, rfl, fin0 rfl hk⟩)))))
def W_added : AW1 := fun avs k => ∃ (rows : List RX.Row) (r : RX.Row) (n : Nat), n ≤ 1000 ∧ rows.length < 1000 ∧ RX.Red n rows ∧ r.length = n ∧ RX.SmA rows r ∧ avs = [.imm (dRs rows), .imm (dR r)] ∧ k [] (.imm (dRs (addR rows r)))
theorem smF_mem : ∀ {rows : List RX.Row} {r o : RX.Row}, RX.SmF rows r → o ∈ rows → RX.Sm o
  | o :: os, r, x, h, hx => by
    rcases List.mem_cons.mp hx with rfl | hx
    · exact h.2.1
    · exact smF_mem h.2.2.2 hx
theorem ok_added {f : Addr} {fd : FuncData} (F : L2.Fun S.K "added" "added" sAdded f fd) (C1 : Can P w mg base S 4 "reduced_by" ["rows", "row"] W_redby) (C2 : Can P w mg base S 1 "lead" ["row"] W_lead) (C3 : Can P w mg base S 3 "without" ["row", "other"] W_wo) (C4 : Can P w mg base S 2 "primitive" ["row"] W_prim)
    (m1 : mg "sorted" = none) : FnOk P w S.K mg base CX0 5 f fd ["rows", "row"] (spA S 2 W_added) := by
  refine fn_ok F scAdded fun cdv A outer s H E hr avs kk hl ⟨rows, r, n, hn, hz, R, hrl, hsm, ha, hk⟩ => ?_
  subst ha
  have hlr : (redF rows r).length = n := RX.redF_len (fun o h => (R.each o h).2) hrl
  refine Do.cons (DoS.set 2 scAdded.nd (AE.call C1 hr rfl (AA.cons (AE.var 0 rfl (AA.cons (AE.var 1 rfl (AA.nil ⟨OkA.d rfl rfl, rows, r, n, hn, by omega, fun o h => ⟨(R.each o h).2, (R.each o h).1.nz⟩, hrl, hsm.1, rfl, _, rfl, ?_⟩)))))))
  have hpl : (prim (redF rows r)).length = n := by rw [RX.prim_len, hlr]
  have hps : RX.Sm (prim (redF rows r)) := hsm.1.last.prim
  generalize hN : prim (redF rows r) = N at *
  show Do S _ _ [some (.imm (dRs rows)), some (.imm (dR r)), some (.imm (dR N)), none, none] _
  refine Do.cons (DoS.ite (AT.cmp op_isN (AE.call C2 (hr.mono (by decide)) rfl (AA.cons (AE.var 2 rfl (AA.nil ⟨OkA.d rfl rfl, N, by omega, rfl, _, rfl, AE.non ?_⟩))))))
  by_cases hzz : RX.isZb N = true
  · have e1 : dLead N = .non := if_pos hzz
    rw [e1]
    refine ⟨true, p2_isN, ?_⟩
    rw [if_pos rfl]
    refine Do.one (DoS.ret (AE.var 0 rfl (fin0 rfl ?_)))
    have : addR rows r = rows := by unfold RX.addR; rw [hN, if_pos hzz]
    rw [this] at hk; exact hk
  · have e1 : dLead N = .int (lead N) := if_neg hzz
    rw [e1]
    refine ⟨false, p2_isF rfl, ?_⟩
    rw [if_neg Bool.false_ne_true]
    refine Do.nil ?_
    have N1 : RX.New1 rows n N := by
      have := RX.New1.mk' R hrl (by rw [hN]; exact fun z => hzz (RX.isZb_iff.mpr z))
      rw [hN] at this; exact this
    have e2 : addR rows r = RX.ins N (rows.map fun o => wo o N (lead N)) := by unfold RX.addR; rw [hN, if_neg hzz]
    rw [e2] at hk
    have hsm2 : ∀ o ∈ rows, RX.Sm (RX.elim o N (lead N)) := by rw [← hN]; exact hsm.2
    have lenW : ∀ o ∈ rows, (wo o N (lead N)).length = n := fun o ho => by rw [RX.wo_len _ (by rw [(R.each o ho).2, hpl]), (R.each o ho).2]
    refine Do.cons (DoS.set 3 scAdded.nd (AE.lst (AA.star (AF.imm (AF.lcL [("other", 4)] rfl scAdded.nd rfl (blkOk_by (N := ["rows", "row", "rest", "found", "other"]) (sc := defScope sAdded) (by decide +kernel)) (AE.var 0 rfl ⟨_, rfl, Comp.to [4] ((rows.map fun o => wo o N (lead N)).map dR) (by decide) (by simp) (by simp; omega) (noOwn rfl) ?_ ?_⟩))) rfl)))
    · intro i x y hx hy s0 H0 C0 cl fp
      obtain ⟨t, ht, rfl⟩ := map_get hx
      obtain ⟨u, hu, rfl⟩ := map_get hy
      rw [List.getElem?_map, ht] at hu; cases hu
      have htm := List.mem_of_getElem? ht
      exact AG.name 4 scAdded.nd fun s0 H0 C0 cl fp => ATs.nil ⟨rfl, fun s0 H0 C0 cl fp => AE.call C3 (hr.mono (by decide)) rfl (AA.cons (AE.var 4 rfl (AA.cons (AE.var 2 rfl (AA.nil ⟨OkA.d rfl rfl, t, N, by rw [(R.each t htm).2, hpl], by rw [(R.each t htm).2]; exact hn, N1.pr.nz, smF_mem hsm.1 htm, hps, hsm2 t htm, rfl, _, rfl, rfl, rfl⟩)))))⟩
    · refine ⟨_, rfl, _, rfl, AA.cons (AE.var 2 rfl (AA.nil ⟨((rows.map fun o => wo o N (lead N)) ++ [N]).map dR, by simp, by simp; omega, ?_⟩))⟩
      show Do S _ _ [some (.imm (dRs rows)), some (.imm (dR r)), some (.imm (dR N)), some (.imm (dRs ((rows.map fun o => wo o N (lead N)) ++ [N]))), none] _
      have each : ∀ t ∈ (rows.map fun o => wo o N (lead N)) ++ [N], t.length = n ∧ RX.IsPrim t ∧ RX.Sm t := fun t ht => by
        rcases List.mem_append.mp ht with h | h
        · obtain ⟨o, ho, rfl⟩ := List.mem_map.mp h
          exact ⟨lenW o ho, (N1.lead R ho).2, RX.Sm.wo (smF_mem hsm.1 ho) (hsm2 o ho)⟩
        · rw [List.mem_singleton.mp h]; exact ⟨hpl, N1.pr, hps⟩
      refine Do.one (DoS.ret (AF.imm (AF.sortK C2 (hr.mono (by decide)) rfl rfl m1 (AF.imm (AF.lcL [("other", 4)] rfl scAdded.nd rfl (blkOk_by (N := ["rows", "row", "rest", "found", "other"]) (sc := defScope sAdded) (by decide +kernel)) (AE.var 3 rfl ⟨_, rfl, Comp.to [4] (((rows.map fun o => wo o N (lead N)) ++ [N]).map dR) (by decide) (by simp) (by simp; omega) (noOwn rfl) ?_ ?_⟩))))))
      · intro i x y hx hy s0 H0 C0 cl fp
        rw [hx] at hy; cases hy
        obtain ⟨t, ht, rfl⟩ := map_get hx
        obtain ⟨q1, q2, q3⟩ := each t (List.mem_of_getElem? ht)
        exact AG.name 4 scAdded.nd fun s0 H0 C0 cl fp => ATs.nil ⟨rfl, fun s0 H0 C0 cl fp => AE.call C4 (hr.mono (by decide)) rfl (AA.cons (AE.var 4 rfl (AA.nil ⟨OkA.d rfl rfl, t, by omega, q3, rfl, _, rfl, rfl, by rw [RX.prim_of_isPrim q2]⟩)))⟩
      · refine ⟨_, rfl, _, (((rows.map fun o => wo o N (lead N)) ++ [N]).map fun r => (lead r : Int)), rfl, by simp, fun i x m hx hm => ?_, fun ys hys => ?_⟩
        · obtain ⟨t, ht, rfl⟩ := map_get hx
          obtain ⟨u, hu, rfl⟩ := map_get hm
          rw [ht] at hu; cases hu
          obtain ⟨q1, q2, q3⟩ := each t (List.mem_of_getElem? ht)
          refine ⟨t, by omega, rfl, rfl, ?_⟩
          unfold dLead
          rw [if_neg fun z => q2.nz (RX.isZb_iff.mp z)]
        · refine ⟨_, rfl, fin0 rfl ?_⟩
          rw [sorted_ins R N1 hys]; exact hk
end
end K21
namespace K21
open PySem PySem.Spec PyProof.Rows L2 Evl AX
open RX (at_ prim gcdL lead isZ redF wo addR redR)
theorem addR_len (rows : List RX.Row) (r : RX.Row) : (addR rows r).length ≤ rows.length + 1 := by
  unfold RX.addR
  split
  · omega
  · rw [(RX.ins_perm _ _).length_eq]; simp
theorem redR_take {some : List RX.Row} {r : RX.Row} {i : Nat} (h : some[i]? = .some r) : redR (some.take (i + 1)) = addR (redR (some.take i)) r := by
  unfold RX.redR
  rw [List.take_add_one, h, List.foldl_append] <;> rfl
theorem redR_len : ∀ (some : List RX.Row), (redR some).length ≤ some.length := fun some => by
  have : ∀ (xs : List RX.Row) (L : List RX.Row), (xs.foldl addR L).length ≤ L.length + xs.length := by
    intro xs
    induction xs with
    | nil => intro L; simp
    | cons x xs ih => intro L; have h1 := ih (addR L x); have h2 := addR_len L x; simp only [List.foldl_cons, List.length_cons]; omega
  have := this some []
  rw [List.length_nil, Nat.zero_add] at this
  exact this
theorem redR_red {n : Nat} : ∀ {some : List RX.Row}, (∀ r ∈ some, r.length = n) → RX.Red n (redR some) := fun {some} h => by
  have : ∀ (xs : List RX.Row) (L : List RX.Row), RX.Red n L → (∀ r ∈ xs, r.length = n) → RX.Red n (xs.foldl addR L) := by
    intro xs
    induction xs with
    | nil => intro L R _; exact R
    | cons x xs ih => intro L R h; exact ih _ (RX.addR_red R (h x (by simp))) fun r hr => h r (by simp [hr])
  exact this some [] (RX.Red.nil n) h
theorem smR_at : ∀ {some : List RX.Row} {L : List RX.Row} {i : Nat} {r : RX.Row}, RX.SmR L some → some[i]? = .some r → RX.SmA ((some.take i).foldl addR L) r
  | [], _, _, _, _, h => by simp at h
  | x :: xs, L, 0, r, h, e => by simp at e; subst e; exact h.1
  | x :: xs, L, i + 1, r, h, e => smR_at (some := xs) h.2 (by simpa using e)
section
variable {P : Program} {w : World} {S : Sig} {mg : Str → Option Value} {base : Heap}
def W_reduced : AW1 := fun avs k => ∃ (ro : List RX.Row) (n : Nat), n ≤ 1000 ∧ ro.length ≤ 1000 ∧ (∀ r ∈ ro, r.length = n) ∧ RX.SmR [] ro ∧ avs = [.imm (dRs ro), .imm (.int n)] ∧ k [] (.imm (dRs (redR ro)))
theorem ok_reduced {f : Addr} {fd : FuncData} (F : L2.Fun S.K "reduced" "reduced" sReduced f fd) (C1 : Can P w mg base S 2 "is_row" ["value", "width"] W_isrow) (C2 : Can P w mg base S 5 "added" ["rows", "row"] W_added) : FnOk P w S.K mg base CX0 6 f fd ["rows", "width"] (spA S 2 W_reduced) := by
  refine fn_ok F scReduced fun cdv A outer s H E hr avs kk hl ⟨ro, n, hn, hz, hlen, hsm, ha, hk⟩ => ?_
  subst ha
  refine Do.cons (DoS.set 2 scReduced.nd (AE.lst (AA.nil ⟨[], rfl, by decide, ?_⟩)))
  refine Do.cons (DoS.forL rfl rfl PassesOwn.never (AE.var 0 rfl ⟨_, rfl, fun i δ => ∃ o, δ = [some (.imm (dRs ro)), some (.imm (.int n)), some (.imm (dRs (redR (ro.take i)))), o], ⟨none, rfl⟩, ?_, ?_⟩))
  · rintro i x δ2 hx ⟨o, rfl⟩
    obtain ⟨t, ht, rfl⟩ := map_get hx
    have htm : t ∈ ro := List.mem_of_getElem? ht
    have hi : i < ro.length := (List.getElem?_eq_some_iff.mp ht).1
    have et := hlen t htm
    refine ⟨[3], AG.name 3 scReduced.nd ?_⟩
    refine Do.cons (DoS.ite (AT.not (AT.val (AE.call C1 (hr.mono (by decide)) rfl (AA.cons (AE.var 3 rfl (AA.cons (AE.var 1 rfl (AA.nil ⟨OkA.d rfl rfl, t, by omega, ?_, _, rfl, true, rfl, ?_⟩)))))))))
    · show [AV.imm (dR t), AV.imm (DV.int n)] = _
      rw [et]
    rw [if_neg (by decide)]
    refine Do.nil (Do.one (DoS.set 2 scReduced.nd (AE.call C2 hr rfl (AA.cons (AE.var 2 rfl (AA.cons (AE.var 3 rfl (AA.nil ⟨OkA.d rfl rfl, redR (ro.take i), t, n, hn, ?_, redR_red fun r hr => hlen r (List.mem_of_mem_take hr), et, smR_at hsm ht, rfl, _, rfl, ?_⟩))))))))
    · have := redR_len (ro.take i)
      rw [List.length_take] at this
      omega
    · exact ⟨some (.imm (dR t)), by rw [redR_take ht] <;> rfl⟩
  · rintro δ2 ⟨o, rfl⟩
    rw [List.length_map, List.take_length]
    exact Do.one (DoS.ret (AE.var 2 rfl (fin0 rfl hk)))
end
end K21
/-! Euclid's steps; the reduction of the primitive row. -/
namespace RX
/-- (a, b) after n steps -/
def euc : Nat → Nat × Nat → Nat × Nat
  | 0, p => p
  | n + 1, p => euc n (p.2, p.1 % p.2)
theorem mod_half {a b : Nat} (h : b ≤ a) (hb : 0 < b) : 2 * (b * (a % b)) ≤ a * b := by
  have h1 : a % b < b := Nat.mod_lt _ hb
  have h2 : a % b + b ≤ a := by
    have := Nat.mod_add_div a b
    have h3 : 1 ≤ a / b := Nat.div_pos h hb
    have h4 : b * 1 ≤ b * (a / b) := Nat.mul_le_mul_left b h3
    omega
  have h5 : 2 * (a % b) ≤ a := by omega
  calc 2 * (b * (a % b)) = b * (2 * (a % b)) := by rw [Nat.mul_left_comm]
    _ ≤ b * a := Nat.mul_le_mul_left b h5
    _ = a * b := Nat.mul_comm b a
/-- the product falls by half at each step -/
def EucOk (c : Nat) (i : Nat) (a b : Nat) : Prop := (i = 0 ∧ a < 2 ^ c ∧ b < 2 ^ c) ∨ (1 ≤ i ∧ b ≤ a ∧ a * b * 2 ^ (i - 1) < 2 ^ (2 * c))
theorem EucOk.step {c i a b : Nat} (h : EucOk c i a b) (hb : b ≠ 0) : EucOk c (i + 1) b (a % b) := by
  have hp : 0 < b := Nat.pos_of_ne_zero hb
  refine .inr ⟨by omega, Nat.le_of_lt (Nat.mod_lt _ hp), ?_⟩
  rcases h with ⟨rfl, h1, h2⟩ | ⟨h0, h1, h2⟩
  · simp only [Nat.zero_add, Nat.sub_self, Nat.pow_zero, Nat.mul_one]
    have : a % b ≤ a := Nat.mod_le _ _
    calc b * (a % b) ≤ b * a := Nat.mul_le_mul_left b this
      _ < 2 ^ c * 2 ^ c := Nat.mul_lt_mul'' h2 h1
      _ = 2 ^ (2 * c) := by rw [← Nat.pow_add]; congr 1; omega
  · have e : i + 1 - 1 = (i - 1) + 1 := by omega
    rw [e, Nat.pow_succ]
    have h3 := mod_half h1 hp
    calc b * (a % b) * (2 ^ (i - 1) * 2) = 2 * (b * (a % b)) * 2 ^ (i - 1) := by rw [Nat.mul_comm (2 ^ (i - 1)) 2, ← Nat.mul_assoc, Nat.mul_comm (b * (a % b)) 2]
      _ ≤ a * b * 2 ^ (i - 1) := Nat.mul_le_mul_right _ h3
      _ < 2 ^ (2 * c) := h2
theorem EucOk.end {c i a b : Nat} (h : EucOk c i a b) (hi : 2 * c + 1 ≤ i) : b = 0 := by
  rcases h with ⟨rfl, _, _⟩ | ⟨_, h1, h2⟩
  · omega
  · apply Classical.byContradiction
    intro hb
    have hp : 1 ≤ a * b := Nat.mul_pos (by omega) (by omega)
    have : 2 ^ (2 * c) ≤ 2 ^ (i - 1) := Nat.pow_le_pow_right (by decide) (by omega)
    have h3 : 1 * 2 ^ (i - 1) ≤ a * b * 2 ^ (i - 1) := Nat.mul_le_mul_right _ hp
    omega
/-- the reduction of the primitive row is the primitive row of the reduction -/
theorem elim_scale {r s o : Row} {a : Int} (hr : r.length = o.length) (hs : s.length = o.length) (h : ∀ i, at_ r i = a * at_ s i) (l : Nat) : elim r o l = (elim s o l).map (a * ·) := by
  apply ext_at
  · rw [List.length_map, elim_len l hr, elim_len l hs, hr, hs]
  · intro i
    rw [at_map (f := fun x => a * x) (by simp), elim_at hr, elim_at hs, h, h, Int.mul_sub, Int.mul_assoc, ← Int.mul_assoc (at_ o i), Int.mul_comm (at_ o i) a, Int.mul_assoc]
theorem prim_wo {r o : Row} (h : r.length = o.length) (l : Nat) : prim (wo r o l) = wo (prim r) o l := by
  unfold wo
  by_cases h0 : at_ r l = 0
  · rw [if_pos h0, if_pos ((prim_at_zero l).mpr h0)]
  · rw [if_neg h0, if_neg (fun z => h0 ((prim_at_zero l).mp z)), prim_prim]
    have hz : ¬ isZ r := fun z => h0 (z l)
    have hg : (gcdL r : Int) ≠ 0 := by have := gcd_pos hz; omega
    rw [elim_scale (s := prim r) (a := sgn (leadV r) * gcdL r) h (by rw [prim_len, h]) (fun i => (prim_mul' hz i).symm), prim_scale (Int.mul_ne_zero (sgn_ne _) hg)]
theorem prim_redF {w : Nat} : ∀ {L : List Row} {r : Row}, (∀ o ∈ L, o.length = w) → r.length = w → prim (redF L r) = redF L (prim r)
  | [], _, _, _ => rfl
  | o :: os, r, ho, h => by
    have e : r.length = o.length := by rw [h, ho o (by simp)]
    show prim (redF os (wo r o (lead o))) = redF os (wo (prim r) o (lead o))
    rw [prim_redF (w := w) (fun x hx => ho x (List.mem_cons_of_mem _ hx)) (by rw [wo_len _ e, h]), prim_wo e]
/-- the primitive row's way is small where the row's is -/
theorem elim_prim_le {r o : Row} (h : r.length = o.length) (l : Nat) (hs : Sm (elim r o l)) : Sm (elim (prim r) o l) := by
  by_cases hz : isZ r
  · rw [prim_z hz]; exact hs
  · intro x hx
    have hg : (gcdL r : Int) ≠ 0 := by have := gcd_pos hz; omega
    have e := elim_scale (s := prim r) (a := sgn (leadV r) * gcdL r) h (by rw [prim_len, h]) (fun i => (prim_mul' hz i).symm) l
    have hm : (sgn (leadV r) * gcdL r : Int) * x ∈ elim r o l := by rw [e]; exact List.mem_map.mpr ⟨x, hx, rfl⟩
    have h1 := hs _ hm
    rw [Int.natAbs_mul] at h1
    have : 1 ≤ (sgn (leadV r) * (gcdL r : Int)).natAbs := by
      have := Int.mul_ne_zero (sgn_ne (leadV r)) hg
      omega
    exact Nat.lt_of_le_of_lt (Nat.le_mul_of_pos_left _ this) h1
theorem SmF.prim {w : Nat} : ∀ {L : List Row} {r : Row}, (∀ o ∈ L, o.length = w) → r.length = w → SmF L r → SmF L (prim r)
  | [], _, _, _, h => Sm.prim h
  | o :: os, r, ho, hr, h => by
    have e : r.length = o.length := by rw [hr, ho o (by simp)]
    refine ⟨h.1.prim, h.2.1, elim_prim_le e _ h.2.2.1, ?_⟩
    rw [← prim_wo e]
    exact SmF.prim (w := w) (fun x hx => ho x (List.mem_cons_of_mem _ hx)) (by rw [wo_len _ e, hr]) h.2.2.2
end RX
namespace K21
open PySem PySem.Spec PyProof.Rows L2 Evl AX
open RX (at_ prim gcdL lead isZ redF wo addR redR)
abbrev sMwCommon : Stmt := topS 26
abbrev sMwPrim : Stmt := topS 27
abbrev sMwWo : Stmt := topS 28
theorem scMwCommon : FnScope ["one", "other", "go"] ["one", "other"] (defScope sMwCommon) := ⟨rfl, rfl, rfl, by decide +kernel, rfl, by decide +kernel, by decide +kernel⟩
theorem scMwPrim : FnScope ["row", "share", "x", "first"] ["row"] (defScope sMwPrim) := ⟨rfl, rfl, rfl, by decide +kernel, rfl, by decide +kernel, by decide +kernel⟩
theorem scMwWo : FnScope ["row", "lead_v", "other", "at"] ["row", "lead_v", "other"] (defScope sMwWo) := ⟨rfl, rfl, rfl, by decide +kernel, rfl, by decide +kernel, by decide +kernel⟩
theorem shaped1 (n : Int) : SeqAt.shaped (DV.lst [.int n]).py = true := by
  show SeqAt.shaped (.list [.int n]) = true
  simp [SeqAt.shaped, PyData.canLay0, PyData.canLayAll0, PyData.depth, PyData.depthAll, sizeLine_eq]
section
variable {P : Program} {w : World} {S : Sig} {mg : Str → Option Value} {base : Heap}
def W_mwcommon : AW1 := fun avs k => ∃ a b : Int, a.natAbs < 2 ^ RX.big ∧ b.natAbs < 2 ^ RX.big ∧ avs = [.imm (.int a), .imm (.int b)] ∧ k [] (.imm (.int (Int.gcd a b)))
theorem ok_mwcommon {f : Addr} {fd : FuncData} (F : L2.Fun S.K "_law_mw_common" "_law_mw_common" sMwCommon f fd) (ma : mg "abs" = none) (mr : mg "range" = none) : FnOk P w S.K mg base CX0 1 f fd ["one", "other"] (spA S 2 W_mwcommon) := by
  refine fn_ok F scMwCommon fun cdv A outer s H E hr avs kk hl ⟨a, b, h1, h2, ha, hk⟩ => ?_
  subst ha
  refine Do.cons (DoS.par 0 1 scMwCommon.nd rfl (AA.cons (AE.bi call_abs ma (by decide +kernel) (AA.cons (AE.var 0 rfl (AA.nil ⟨[.int a], _, rfl, pc_abs.n, ?_⟩))))))
  refine AA.cons (AE.bi call_abs ma (by decide +kernel) (AA.cons (AE.var 1 rfl (AA.nil ⟨[.int b], _, rfl, pc_abs.n, ?_⟩))))
  refine AA.nil ⟨_, _, rfl, ?_⟩
  show Do S _ _ [some (.imm (.int (if a < 0 then -a else a))), some (.imm (.int (if b < 0 then -b else b))), none] _
  have na : ∀ x : Int, (if x < 0 then -x else x) = (x.natAbs : Int) := fun x => by split <;> omega
  rw [na, na]
  refine Do.cons (DoS.forR rfl PassesOwn.never mr (AE.int ⟨100000, rfl, by decide, by decide, fun i δ => ∃ (x y : Nat) (o : Option Int), δ = [some (.imm (.int x)), some (.imm (.int y)), o.map fun n => .imm (.int n)] ∧ Nat.gcd x y = Int.gcd a b ∧ RX.EucOk RX.big i x y, ⟨a.natAbs, b.natAbs, none, rfl, rfl, .inl ⟨rfl, h1, h2⟩⟩, ?_, ?_⟩))
  · rintro i z δ2 hz ⟨x, y, o, rfl, hg, he⟩
    obtain ⟨hi, rfl⟩ := range_get (lo := 0) hz
    refine ⟨[2], AG.name 2 scMwCommon.nd ?_⟩
    refine Do.cons (DoS.ite (AT.cmp op_eq (AE.var 1 rfl (AE.int ⟨_, p2_eqI, ?_⟩))))
    by_cases h : y = 0
    · subst h
      rw [if_pos (by simp)]
      refine Do.one (DoS.brk ?_)
      refine Do.one (DoS.ret (AE.var 0 rfl (fin0 rfl ?_)))
      rw [Nat.gcd_zero_right] at hg
      rw [hg]; exact hk
    · rw [if_neg (by simp [h])]
      refine Do.nil (Do.one (DoS.par 0 1 scMwCommon.nd rfl (AA.cons (AE.var 1 rfl (AA.cons (AE.bin op_modN (AE.var 0 rfl (AE.var 1 rfl ⟨_, p2_ciii (by omega), AA.nil ⟨_, _, rfl, ?_⟩⟩))))))))
      have e : ((x : Int).fmod (y : Int)) = ((x % y : Nat) : Int) := by rw [Int.fmod_eq_emod_of_nonneg _ (by omega)]; rfl
      rw [e]
      exact ⟨y, x % y, some _, rfl, by rw [← hg, Nat.gcd_comm x y, Nat.gcd_rec y x, Nat.gcd_comm], he.step h⟩
  · rintro δ2 ⟨x, y, o, rfl, hg, he⟩
    rw [rngD_len] at he
    have hy := he.end (by decide)
    subst hy
    refine Do.one (DoS.ret (AE.var 0 rfl (fin0 rfl ?_)))
    rw [Nat.gcd_zero_right] at hg
    rw [hg]; exact hk
theorem ok_mwprim_L {f : Addr} {fd : FuncData} (F : L2.Fun S.K "_law_mw_primitive" "_law_mw_primitive" sMwPrim f fd) (C : Can P w mg base S 1 "_law_mw_common" ["one", "other"] W_mwcommon) (m1 : mg "tuple" = none) (cdv : Value) (A : Around) (outer : List Env) (s : Shared) (H : Hp) (E : XK) (hr : Room 1 (A.deeper (envOfC "_law_mw_primitive" (defScope sMwPrim) s.heap.objs.size f cdv))) (kk : List OV → AV → Prop) (r : RX.Row) (hz : r.length ≤ 1000) (hsm : RX.Sm r) (hk : kk [] (.imm (dR (prim r)))) :
    Do S (cxOf CX0 P w S.K mg base ["row", "share", "x", "first"] "_law_mw_primitive" (defScope sMwPrim) f cdv A outer s H E).nox (defBody sMwPrim) (startS 4 [.imm (.lst (r.map DV.int))]) (AX.Fin [.imm (.lst (r.map DV.int))] kk) := by
  refine Do.cons (DoS.set 1 scMwPrim.nd (AE.int ?_))
  refine Do.cons (DoS.forL rfl rfl PassesOwn.never (AE.var 0 rfl ⟨_, rfl, fun i δ => ∃ o : Option Int, δ = [some (.imm (.lst (r.map DV.int))), some (.imm (.int ((r.take i).foldl (fun g x => Nat.gcd g x.natAbs) 0 : Nat))), o.map fun n => .imm (.int n), none], ⟨none, rfl⟩, ?_, ?_⟩))
  · rintro i x δ2 hx ⟨o, rfl⟩
    obtain ⟨n, hn, rfl⟩ := map_get hx
    refine ⟨[2], AG.name 2 scMwPrim.nd ?_⟩
    refine Do.one (DoS.set 1 scMwPrim.nd (AE.call C hr rfl (AA.cons (AE.var 1 rfl (AA.cons (AE.var 2 rfl (AA.nil ⟨OkA.d rfl rfl, _, n, ?_, hsm n (List.mem_of_getElem? hn), rfl, _, rfl, ?_⟩)))))))
    · rw [Int.natAbs_natCast]
      have hsub : RX.Sm (r.take i) := fun x hx => hsm x (List.mem_of_mem_take hx)
      by_cases hzz : isZ (r.take i)
      · have : RX.gcdL (r.take i) = 0 := RX.gcdL_zero.mpr (RX.isZ_iff.mp hzz)
        show RX.gcdL (r.take i) < _
        rw [this]; exact Nat.two_pow_pos _
      · exact RX.gcd_lt hzz hsub
    · refine ⟨some n, ?_⟩
      rw [List.take_add_one, hn]
      show _ = _
      simp [List.foldl_append, Int.gcd, backI, ownI]
  · rintro δ2 ⟨o, rfl⟩
    rw [List.length_map, List.take_length]
    show Do S _ _ [some (.imm (.lst (r.map DV.int))), some (.imm (.int (gcdL r : Nat))), o.map fun n => .imm (.int n), none] _
    refine Do.cons (DoS.set 3 scMwPrim.nd (AF.imm (AF.slice (AF.imm (AF.lcL [("x", 2)] rfl scMwPrim.nd rfl (blkOk_by (N := ["row", "share", "x", "first"]) (sc := defScope sMwPrim) (by decide +kernel)) (AE.var 0 rfl ⟨_, rfl, Comp.filt [2] nzD (by decide) (by simp; omega) (noOwn (by cases o <;> rfl)) ?_ ?_⟩))))))
    · intro i x hx s0 H0 C0 cl fp
      obtain ⟨n, hn, rfl⟩ := map_get hx
      refine AG.name 2 scMwPrim.nd fun s0 H0 C0 cl fp => ATs.one (AT.cmp op_ne (AE.var 2 rfl (AE.int ⟨_, p2_neI, rfl, ?_⟩)))
      by_cases h0 : n = 0
      · rw [if_neg (by simp [h0])]; exact if_pos h0
      · rw [if_pos (by simp [h0])]
        exact fun s0 H0 C0 cl fp => AE.var 2 rfl ⟨rfl, if_neg h0⟩
    · rw [nzD_map]
      refine ⟨_, rfl, AO.none (AO.some (AE.int ⟨1, rfl, _, rfl, _, rfl, ?_⟩))⟩
      by_cases hzz : isZ r
      · have ef : (r.filter fun x => decide (x ≠ 0)) = [] := List.filter_eq_nil_iff.mpr fun x hx => by
          have := RX.isZ_iff.mp hzz x hx
          simp [this]
        rw [ef]
        show Do S _ _ [some (.imm (.lst (r.map DV.int))), some (.imm (.int (gcdL r : Nat))), o.map fun n => .imm (.int n), some (.imm (.lst []))] _
        refine Do.cons (DoS.ite (AT.cmp (op_eqD hr.units) (AE.var 3 rfl (AE.lst (AA.nil ⟨[], rfl, by decide, _, p2_eqD rfl rfl (by decide) (by decide), ?_⟩)))))
        rw [if_pos (by decide)]
        refine Do.one (DoS.ret (AE.bt call_tuple_of m1 (by decide +kernel) (AA.cons (AE.var 0 rfl (AA.nil ⟨[.lst (r.map DV.int)], _, rfl, pcn_tuple (.inl rfl), fin0 rfl ?_⟩)))))
        rw [RX.prim_z hzz] at hk; exact hk
      · obtain ⟨t, et⟩ : ∃ t, (r.filter fun x => decide (x ≠ 0)) = RX.leadV r :: t := by
          have := RX.first_ne hzz
          cases q : (r.filter fun x => decide (x ≠ 0)) with
          | nil => rw [q] at this; cases this
          | cons y t => rw [q] at this; exact ⟨t, by rw [Option.some.inj this]⟩
        have ec : AX.cutD ((r.filter fun x => decide (x ≠ 0)).map DV.int) none (some 1) = [DV.int (RX.leadV r)] := by
          rw [et]
          unfold AX.cutD
          rw [HT.sIx_none, show (some (1 : Int)) = some ((1 : Nat) : Int) from rfl, HT.sIx_nat]
          simp
        rw [ec]
        show Do S _ _ [some (.imm (.lst (r.map DV.int))), some (.imm (.int (gcdL r : Nat))), o.map fun n => .imm (.int n), some (.imm (.lst [.int (RX.leadV r)]))] _
        refine Do.cons (DoS.ite (AT.cmp (op_eqD hr.units) (AE.var 3 rfl (AE.lst (AA.nil ⟨[], rfl, by decide, _, p2_eqD rfl rfl (shaped1 _) (by decide), ?_⟩)))))
        rw [if_neg (by show ¬ PyData.eqv (.list [.int (RX.leadV r)]) (.list []) = true; simp [PyData.eqv, PyData.eqvAll])]
        refine Do.nil (Do.one (DoS.ret (AE.bt call_tuple_of m1 (by decide +kernel) (AA.cons (AF.imm (AF.lcL [("x", 2)] rfl scMwPrim.nd rfl (blkOk_by (N := ["row", "share", "x", "first"]) (sc := defScope sMwPrim) (by decide +kernel)) (AE.var 0 rfl ⟨_, rfl, Comp.to [2] ((prim r).map DV.int) (by decide) (by simp [RX.prim_len]) (by simp; omega) (noOwn (by cases o <;> rfl)) ?_ ?_⟩)))))))
        · intro i x y hx hy s0 H0 C0 cl fp
          obtain ⟨n, hn, rfl⟩ := map_get hx
          obtain ⟨m, hm, rfl⟩ := map_get hy
          have hgl := RX.gcd_lt hzz hsm
          have hg0 := RX.gcd_pos hzz
          have dv : (gcdL r : Int) ∣ n := RX.gcdL_dvd' (List.mem_of_getElem? hn)
          have em := RX.prim_get hzz hn hm
          have cd : CDivX n (gcdL r : Int) := wide_divX (a := RX.big) (by omega) (hsm n (List.mem_of_getElem? hn)) (by decide) (by decide)
          refine AG.name 2 scMwPrim.nd fun s0 H0 C0 cl fp => ATs.nil ⟨rfl, fun s0 H0 C0 cl fp => ?_⟩
          refine AE.ite (AT.cmp op_gt (AE.sub ix_list (AE.var 3 rfl (AE.int ⟨.int (RX.leadV r), p2_ixL (atI_nat (i := 0) rfl), AE.int ⟨_, p2_iib, ?_⟩⟩))))
          by_cases hp : RX.leadV r > 0
          · rw [if_pos (by simpa using hp)]
            refine AE.bin op_fdivX (AE.var 2 rfl (AE.var 1 rfl ⟨_, p2_ciii cd, rfl, ?_⟩))
            rw [em, RX.sgn, if_pos hp, Int.one_mul]
          · rw [if_neg (by simpa using hp)]
            refine AE.un un_neg (AE.bin op_fdivX (AE.var 2 rfl (AE.var 1 rfl ⟨_, p2_ciii cd, _, p1_neg, rfl, ?_⟩)))
            rw [em, RX.sgn, if_neg hp, Int.neg_mul, Int.one_mul, Int.neg_ediv_of_dvd dv]
        · exact ⟨_, rfl, AA.nil ⟨[.lst _], _, rfl, pcn_tuple (.inl rfl), fin0 rfl hk⟩⟩
theorem ok_mwprim_T {f : Addr} {fd : FuncData} (F : L2.Fun S.K "_law_mw_primitive" "_law_mw_primitive" sMwPrim f fd) (C : Can P w mg base S 1 "_law_mw_common" ["one", "other"] W_mwcommon) (m1 : mg "tuple" = none) (cdv : Value) (A : Around) (outer : List Env) (s : Shared) (H : Hp) (E : XK) (hr : Room 1 (A.deeper (envOfC "_law_mw_primitive" (defScope sMwPrim) s.heap.objs.size f cdv))) (kk : List OV → AV → Prop) (r : RX.Row) (hz : r.length ≤ 1000) (hsm : RX.Sm r) (hk : kk [] (.imm (dR (prim r)))) :
    Do S (cxOf CX0 P w S.K mg base ["row", "share", "x", "first"] "_law_mw_primitive" (defScope sMwPrim) f cdv A outer s H E).nox (defBody sMwPrim) (startS 4 [.imm (.tup (r.map DV.int))]) (AX.Fin [.imm (.tup (r.map DV.int))] kk) := by
  refine Do.cons (DoS.set 1 scMwPrim.nd (AE.int ?_))
  refine Do.cons (DoS.forT rfl rfl PassesOwn.never (AE.var 0 rfl ⟨_, rfl, fun i δ => ∃ o : Option Int, δ = [some (.imm (.tup (r.map DV.int))), some (.imm (.int ((r.take i).foldl (fun g x => Nat.gcd g x.natAbs) 0 : Nat))), o.map fun n => .imm (.int n), none], ⟨none, rfl⟩, ?_, ?_⟩))
  · rintro i x δ2 hx ⟨o, rfl⟩
    obtain ⟨n, hn, rfl⟩ := map_get hx
    refine ⟨[2], AG.name 2 scMwPrim.nd ?_⟩
    refine Do.one (DoS.set 1 scMwPrim.nd (AE.call C hr rfl (AA.cons (AE.var 1 rfl (AA.cons (AE.var 2 rfl (AA.nil ⟨OkA.d rfl rfl, _, n, ?_, hsm n (List.mem_of_getElem? hn), rfl, _, rfl, ?_⟩)))))))
    · rw [Int.natAbs_natCast]
      have hsub : RX.Sm (r.take i) := fun x hx => hsm x (List.mem_of_mem_take hx)
      by_cases hzz : isZ (r.take i)
      · have : RX.gcdL (r.take i) = 0 := RX.gcdL_zero.mpr (RX.isZ_iff.mp hzz)
        show RX.gcdL (r.take i) < _
        rw [this]; exact Nat.two_pow_pos _
      · exact RX.gcd_lt hzz hsub
    · refine ⟨some n, ?_⟩
      rw [List.take_add_one, hn]
      show _ = _
      simp [List.foldl_append, Int.gcd, backI, ownI]
  · rintro δ2 ⟨o, rfl⟩
    rw [List.length_map, List.take_length]
    show Do S _ _ [some (.imm (.tup (r.map DV.int))), some (.imm (.int (gcdL r : Nat))), o.map fun n => .imm (.int n), none] _
    refine Do.cons (DoS.set 3 scMwPrim.nd (AF.imm (AF.slice (AF.imm (AF.lcT [("x", 2)] rfl scMwPrim.nd rfl (blkOk_by (N := ["row", "share", "x", "first"]) (sc := defScope sMwPrim) (by decide +kernel)) (AE.var 0 rfl ⟨_, rfl, Comp.filt [2] nzD (by decide) (by simp; omega) (noOwn (by cases o <;> rfl)) ?_ ?_⟩))))))
    · intro i x hx s0 H0 C0 cl fp
      obtain ⟨n, hn, rfl⟩ := map_get hx
      refine AG.name 2 scMwPrim.nd fun s0 H0 C0 cl fp => ATs.one (AT.cmp op_ne (AE.var 2 rfl (AE.int ⟨_, p2_neI, rfl, ?_⟩)))
      by_cases h0 : n = 0
      · rw [if_neg (by simp [h0])]; exact if_pos h0
      · rw [if_pos (by simp [h0])]
        exact fun s0 H0 C0 cl fp => AE.var 2 rfl ⟨rfl, if_neg h0⟩
    · rw [nzD_map]
      refine ⟨_, rfl, AO.none (AO.some (AE.int ⟨1, rfl, _, rfl, _, rfl, ?_⟩))⟩
      by_cases hzz : isZ r
      · have ef : (r.filter fun x => decide (x ≠ 0)) = [] := List.filter_eq_nil_iff.mpr fun x hx => by
          have := RX.isZ_iff.mp hzz x hx
          simp [this]
        rw [ef]
        show Do S _ _ [some (.imm (.tup (r.map DV.int))), some (.imm (.int (gcdL r : Nat))), o.map fun n => .imm (.int n), some (.imm (.lst []))] _
        refine Do.cons (DoS.ite (AT.cmp (op_eqD hr.units) (AE.var 3 rfl (AE.lst (AA.nil ⟨[], rfl, by decide, _, p2_eqD rfl rfl (by decide) (by decide), ?_⟩)))))
        rw [if_pos (by decide)]
        refine Do.one (DoS.ret (AE.bt call_tuple_of m1 (by decide +kernel) (AA.cons (AE.var 0 rfl (AA.nil ⟨[.tup (r.map DV.int)], _, rfl, pcn_tuple (.inr rfl), fin0 rfl ?_⟩)))))
        rw [RX.prim_z hzz] at hk; exact hk
      · obtain ⟨t, et⟩ : ∃ t, (r.filter fun x => decide (x ≠ 0)) = RX.leadV r :: t := by
          have := RX.first_ne hzz
          cases q : (r.filter fun x => decide (x ≠ 0)) with
          | nil => rw [q] at this; cases this
          | cons y t => rw [q] at this; exact ⟨t, by rw [Option.some.inj this]⟩
        have ec : AX.cutD ((r.filter fun x => decide (x ≠ 0)).map DV.int) none (some 1) = [DV.int (RX.leadV r)] := by
          rw [et]
          unfold AX.cutD
          rw [HT.sIx_none, show (some (1 : Int)) = some ((1 : Nat) : Int) from rfl, HT.sIx_nat]
          simp
        rw [ec]
        show Do S _ _ [some (.imm (.tup (r.map DV.int))), some (.imm (.int (gcdL r : Nat))), o.map fun n => .imm (.int n), some (.imm (.lst [.int (RX.leadV r)]))] _
        refine Do.cons (DoS.ite (AT.cmp (op_eqD hr.units) (AE.var 3 rfl (AE.lst (AA.nil ⟨[], rfl, by decide, _, p2_eqD rfl rfl (shaped1 _) (by decide), ?_⟩)))))
        rw [if_neg (by show ¬ PyData.eqv (.list [.int (RX.leadV r)]) (.list []) = true; simp [PyData.eqv, PyData.eqvAll])]
        refine Do.nil (Do.one (DoS.ret (AE.bt call_tuple_of m1 (by decide +kernel) (AA.cons (AF.imm (AF.lcT [("x", 2)] rfl scMwPrim.nd rfl (blkOk_by (N := ["row", "share", "x", "first"]) (sc := defScope sMwPrim) (by decide +kernel)) (AE.var 0 rfl ⟨_, rfl, Comp.to [2] ((prim r).map DV.int) (by decide) (by simp [RX.prim_len]) (by simp; omega) (noOwn (by cases o <;> rfl)) ?_ ?_⟩)))))))
        · intro i x y hx hy s0 H0 C0 cl fp
          obtain ⟨n, hn, rfl⟩ := map_get hx
          obtain ⟨m, hm, rfl⟩ := map_get hy
          have hgl := RX.gcd_lt hzz hsm
          have hg0 := RX.gcd_pos hzz
          have dv : (gcdL r : Int) ∣ n := RX.gcdL_dvd' (List.mem_of_getElem? hn)
          have em := RX.prim_get hzz hn hm
          have cd : CDivX n (gcdL r : Int) := wide_divX (a := RX.big) (by omega) (hsm n (List.mem_of_getElem? hn)) (by decide) (by decide)
          refine AG.name 2 scMwPrim.nd fun s0 H0 C0 cl fp => ATs.nil ⟨rfl, fun s0 H0 C0 cl fp => ?_⟩
          refine AE.ite (AT.cmp op_gt (AE.sub ix_list (AE.var 3 rfl (AE.int ⟨.int (RX.leadV r), p2_ixL (atI_nat (i := 0) rfl), AE.int ⟨_, p2_iib, ?_⟩⟩))))
          by_cases hp : RX.leadV r > 0
          · rw [if_pos (by simpa using hp)]
            refine AE.bin op_fdivX (AE.var 2 rfl (AE.var 1 rfl ⟨_, p2_ciii cd, rfl, ?_⟩))
            rw [em, RX.sgn, if_pos hp, Int.one_mul]
          · rw [if_neg (by simpa using hp)]
            refine AE.un un_neg (AE.bin op_fdivX (AE.var 2 rfl (AE.var 1 rfl ⟨_, p2_ciii cd, _, p1_neg, rfl, ?_⟩)))
            rw [em, RX.sgn, if_neg hp, Int.neg_mul, Int.one_mul, Int.neg_ediv_of_dvd dv]
        · exact ⟨_, rfl, AA.nil ⟨[.lst _], _, rfl, pcn_tuple (.inl rfl), fin0 rfl hk⟩⟩

def W_mwprim : AW1 := fun avs k => ∃ (r : RX.Row) (d : DV), r.length ≤ 1000 ∧ RX.Sm r ∧ (d = .lst (r.map DV.int) ∨ d = .tup (r.map DV.int)) ∧ avs = [.imm d] ∧ k [] (.imm (dR (prim r)))
theorem ok_mwprim {f : Addr} {fd : FuncData} (F : L2.Fun S.K "_law_mw_primitive" "_law_mw_primitive" sMwPrim f fd) (C : Can P w mg base S 1 "_law_mw_common" ["one", "other"] W_mwcommon) (m1 : mg "tuple" = none) : FnOk P w S.K mg base CX0 2 f fd ["row"] (spA S 1 W_mwprim) := by
  refine fn_ok F scMwPrim fun cdv A outer s H E hr avs kk hl ⟨r, d, hz, hsm, hd, ha, hk⟩ => ?_
  subst ha
  rcases hd with rfl | rfl
  · exact ok_mwprim_L F C m1 cdv A outer s H E hr kk r hz hsm hk
  · exact ok_mwprim_T F C m1 cdv A outer s H E hr kk r hz hsm hk
end
end K21
namespace K21
open PySem PySem.Spec PyProof.Rows L2 Evl AX
open RX (at_ prim gcdL lead isZ redF wo addR redR)
abbrev sMwTaken : Stmt := topS 29
abbrev sMwRed : Stmt := topS 30
theorem scMwTaken : FnScope ["found", "row", "left", "lead_v", "here", "at"] ["found", "row"] (defScope sMwTaken) := ⟨rfl, rfl, rfl, by decide +kernel, rfl, by decide +kernel, by decide +kernel⟩
theorem scMwRed : FnScope ["some", "found", "row", "lead_v"] ["some"] (defScope sMwRed) := ⟨rfl, rfl, rfl, by decide +kernel, rfl, by decide +kernel, by decide +kernel⟩
theorem ix_row {t : RX.Row} {i : Nat} (h : i < t.length) : atI (t.map DV.int) (i : Int) = some (.int (at_ t i)) := atI_nat (by rw [List.getElem?_map, List.getElem?_eq_getElem h, RX.at_eq_get h] <;> rfl)
section
variable {P : Program} {w : World} {S : Sig} {mg : Str → Option Value} {base : Heap}
def W_mwwo : AW1 := fun avs k => ∃ r o : RX.Row, r.length = o.length ∧ r.length ≤ 1000 ∧ ¬ isZ o ∧ RX.Sm r ∧ RX.Sm o ∧ RX.Sm (RX.elim r o (lead o)) ∧ avs = [.imm (dR r), .imm (.int (lead o)), .imm (dR o)] ∧ k [] (.imm (dR (wo r o (lead o))))
theorem ok_mwwo {f : Addr} {fd : FuncData} (F : L2.Fun S.K "_law_mw_without" "_law_mw_without" sMwWo f fd) (C : Can P w mg base S 2 "_law_mw_primitive" ["row"] W_mwprim) (m1 : mg "len" = none) (m2 : mg "range" = none) : FnOk P w S.K mg base CX0 3 f fd ["row", "lead_v", "other"] (spA S 3 W_mwwo) := by
  refine fn_ok F scMwWo fun cdv A outer s H E hr avs kk hl ⟨r, o, hl2, hz, nz, s1, s2, s3, ha, hk⟩ => ?_
  subst ha
  have hlo := RX.lead_lt nz
  refine Do.cons (DoS.ite (AT.cmp op_eq (AE.sub ix_tup (AE.var 0 rfl (AE.var 1 rfl ⟨_, p2_ixT (ix_row (by omega)), AE.int ⟨_, p2_eqI, ?_⟩⟩)))))
  by_cases h0 : at_ r (lead o) = 0
  · rw [if_pos (by simp [h0])]
    refine Do.one (DoS.ret (AE.var 0 rfl (fin0 rfl ?_)))
    have : wo r o (lead o) = r := if_pos h0
    rw [this] at hk; exact hk
  · rw [if_neg (by simp [h0])]
    refine Do.nil ?_
    have e1 : wo r o (lead o) = prim (RX.elim r o (lead o)) := if_neg h0
    rw [e1] at hk
    have el := RX.elim_len (lead o) hl2
    refine Do.one (DoS.ret (AE.call C hr rfl (AA.cons (AF.imm (AF.lcR [("at", 3)] rfl scMwWo.nd m2 (blkOk_by (N := ["row", "lead_v", "other", "at"]) (sc := defScope sMwWo) (by decide +kernel)) (AE.bi call_len_seq m1 PySem.boot_len (AA.cons (AE.var 0 rfl (AA.nil ⟨[dR r], _, rfl, (pc_len rfl).n, r.length, by simp, by omega, by omega, Comp.to [3] ((RX.elim r o (lead o)).map DV.int) (by decide) (by rw [rngD_len, List.length_map, el]; simp) (by rw [rngD_len]; simp; omega) (noOwn rfl) ?_ ?_⟩)))))))))
    · intro i x y hx hy s0 H0 C0 cl fp
      obtain ⟨hi, rfl⟩ := range_get (lo := 0) hx
      have hi : i < r.length := by simpa using hi
      rw [Int.zero_add]
      obtain ⟨m, hm, rfl⟩ := map_get hy
      have em : m = at_ r i * at_ o (lead o) - at_ o i * at_ r (lead o) := by
        rw [← RX.elim_at hl2, RX.at_eq_get (by rw [el]; exact hi)]
        rw [List.getElem?_eq_getElem (by rw [el]; exact hi)] at hm
        exact (Option.some.inj hm).symm
      refine AG.name 3 scMwWo.nd fun s0 H0 C0 cl fp => ATs.nil ⟨rfl, fun s0 H0 C0 cl fp => ?_⟩
      refine AE.bin op_sub (AE.bin op_mulW (AE.sub ix_tup (AE.var 0 rfl (AE.var 3 rfl ⟨_, p2_ixT (ix_row hi), AE.sub ix_tup (AE.var 2 rfl (AE.var 1 rfl ⟨_, p2_ixT (ix_row hlo), _, p2_ciii ?_, ?_⟩))⟩))))
      · exact wide_mul (a := RX.big) (b := RX.big) (s1.at _) (s2.at _) (by decide) (by decide) (by decide)
      · refine AE.bin op_mulW (AE.sub ix_tup (AE.var 2 rfl (AE.var 3 rfl ⟨_, p2_ixT (ix_row (by omega)), AE.sub ix_tup (AE.var 0 rfl (AE.var 1 rfl ⟨_, p2_ixT (ix_row (by omega)), _, p2_ciii ?_, _, p2_iii, rfl, by rw [em]⟩))⟩)))
        exact wide_mul (a := RX.big) (b := RX.big) (s2.at _) (s1.at _) (by decide) (by decide) (by decide)
    · exact ⟨_, rfl, AA.nil ⟨OkA.d rfl rfl, RX.elim r o (lead o), _, by omega, s3, .inl rfl, rfl, _, rfl, fin0 rfl hk⟩⟩
end
end K21
namespace K21
open PySem PySem.Spec PyProof.Rows L2 Evl AX
open RX (at_ prim gcdL lead isZ redF wo addR redR)
/-- the law's dict: rows by their leads -/
def kvR (T : List RX.Row) : List (Key × DV) := T.map fun r => (.inl (lead r : Int), dR r)
theorem kv_ne {a b : Nat} (h : a ≠ b) : decide ((Sum.inl (a : Int) : Key) = .inl (b : Int)) = false := decide_eq_false fun z => h (by have := Sum.inl.inj z; omega)
theorem dget_kv : ∀ {T : List RX.Row} {o : RX.Row}, T.Pairwise (fun a b => lead a ≠ lead b) → o ∈ T → dget (kvR T) (.inl (lead o : Int)) = some (dR o)
  | t :: T, o, pw, h => by
    have p := List.pairwise_cons.mp pw
    unfold dget kvR
    rw [List.map_cons, List.find?_cons]
    rcases List.mem_cons.mp h with rfl | h
    · simp
    · rw [show decide (((Sum.inl (lead t : Int) : Key), dR t).1 = .inl (lead o : Int)) = false from kv_ne (p.1 o h)]
      exact dget_kv p.2 h
theorem any_kv {T : List RX.Row} {n : Nat} (h : ∀ o ∈ T, lead o ≠ n) : ((kvR T).any fun kv => decide (kv.1 = .inl (n : Int))) = false := by
  rw [List.any_eq_false]
  intro kv hkv
  obtain ⟨o, ho, rfl⟩ := List.mem_map.mp hkv
  rw [show decide (((Sum.inl (lead o : Int) : Key), dR o).1 = .inl (n : Int)) = false from kv_ne (h o ho)]
  exact Bool.false_ne_true
theorem dput_new {T : List RX.Row} {N : RX.Row} (h : ∀ o ∈ T, lead o ≠ lead N) : dput (kvR T) (.inl (lead N : Int)) (dR N) = kvR (T ++ [N]) := by
  unfold dput
  rw [any_kv h, if_neg Bool.false_ne_true]
  unfold kvR; rw [List.map_append]; rfl
theorem dput_at {A B : List RX.Row} {o o' : RX.Row} (e : lead o' = lead o) (hA : ∀ x ∈ A, lead x ≠ lead o) (hB : ∀ x ∈ B, lead x ≠ lead o) : dput (kvR (A ++ o :: B)) (.inl (lead o : Int)) (dR o') = kvR (A ++ o' :: B) := by
  unfold dput
  have h1 : ((kvR (A ++ o :: B)).any fun kv => decide (kv.1 = .inl (lead o : Int))) = true := by
    rw [List.any_eq_true]
    exact ⟨(.inl (lead o : Int), dR o), List.mem_map.mpr ⟨o, by simp, rfl⟩, by simp⟩
  rw [if_pos h1]
  have off : ∀ C : List RX.Row, (∀ x ∈ C, lead x ≠ lead o) → (kvR C).map (fun kv => if kv.1 = .inl (lead o : Int) then (kv.1, dR o') else kv) = kvR C := fun C hC => by
    unfold kvR
    rw [List.map_map]
    refine List.map_congr_left fun x hx => ?_
    exact if_neg fun z => hC x hx (by have := Sum.inl.inj z; omega)
  have sp : ∀ (C D : List RX.Row) (x : RX.Row), kvR (C ++ x :: D) = kvR C ++ (.inl (lead x : Int), dR x) :: kvR D := fun C D x => by unfold kvR; rw [List.map_append, List.map_cons]
  rw [sp, sp, List.map_append, List.map_cons, off A hA, off B hB, if_pos rfl, e]
theorem perm_leads {n : Nat} {T L : List RX.Row} (R : RX.Red n L) (h : T.Perm L) : T.Pairwise fun a b => lead a ≠ lead b := by
  have : L.Pairwise fun a b => lead a ≠ lead b := R.lt.imp fun h => Nat.ne_of_lt h
  exact (h.pairwise_iff (fun h => h.symm)).mpr this
/-- the sorted keys -/
theorem sorted_leads {n : Nat} {T L : List RX.Row} (R : RX.Red n L) (h : T.Perm L) {ns : List Int} (h1 : ns.Perm (T.map fun r => (lead r : Int))) (h2 : ns.Pairwise (· ≤ ·)) : ns = L.map fun r => (lead r : Int) :=
  List.Perm.eq_of_pairwise (le := (· ≤ ·)) (fun a b _ _ e1 e2 => Int.le_antisymm e1 e2) h2 (List.pairwise_map.mpr (R.lt.imp fun h => by show (_ : Int) ≤ _; omega)) (h1.trans (h.map _))
theorem shapedI (ns : List Int) (h : ns.length ≤ 100000) : SeqAt.shaped (PyData.list (ns.map PyData.int)) = true := by
  have a : ∀ ns : List Int, PyData.canLayAll0 (ns.map PyData.int) = true := fun ns => by
    induction ns with
    | nil => simp [PyData.canLayAll0]
    | cons n ns ih => simp [PyData.canLayAll0, PyData.canLay0, ih]
  have b : ∀ ns : List Int, PyData.depthAll (ns.map PyData.int) ≤ 1 := fun ns => by
    induction ns with
    | nil => simp [PyData.depthAll]
    | cons n ns ih => simp [PyData.depthAll, PyData.depth]; omega
  have c := b ns
  have hs : (100000 : Nat) ≤ sizeLine := by decide
  simp [SeqAt.shaped, PyData.canLay0, PyData.depth, a]
  omega
theorem py_ints : ∀ ns : List Int, DV.pyL (ns.map DV.int) = ns.map PyData.int
  | [] => rfl
  | n :: ns => congrArg (PyData.int n :: ·) (py_ints ns)
theorem plain_ints : ∀ ns : List Int, DV.plainL (ns.map DV.int) = true
  | [] => rfl
  | n :: ns => by rw [List.map_cons]; exact plain_ints ns
end K21
namespace AX
open PySem PySem.Spec PyProof.Rows L2 Evl
/-- an own class whose instances isinstance knows -/
structure IsCls (K : PySem.W.Frag) (C : Addr) : Prop where
  cl : Cls K C
  ha : PySem.W.findIn K (.ref C) "__class__" = some (some (.builtin "object.__class__"))
  hn : PySem.W.specialIn K (.builtin "object.__class__") "__get__" = some (some (.builtin "getset_descriptor.__get__"))
  htk : PySem.W.takesIn K (.builtin "object.__class__") = some true
  hm : PySem.W.mroIn K C (.type "object") = some true
theorem pcn_isiOb {S : Sig} {t : Nat} {xs : List DV} (c : IsCls S.K (S.cls t)) : PCN S (rIsi S.K) [.ob t xs, .raw (.ref (S.cls t))] (.bl true) := fun G σ B H δ vs Q R r q => by
  cases r with
  | cons r1 r => cases r with
    | cons r2 r =>
      cases r
      obtain ⟨a, dx, fs, rfl, h1, h2, h3⟩ := r1.ob_inv
      have e := r2.raw_inv
      subst e
      refine ⟨_, _, .ref (S.cls t), .ref (S.cls t), true, rfl, .own _, .base (.ins (R.ex _ _ h1) c.cl c.ha c.hn c.htk c.hm), ?_, q _ B H (Ex.refl B) R (.bl true)⟩
      unfold PySem.W.kitOne
      rw [if_pos (by simp)]
end AX
namespace K21
open PySem PySem.Spec PyProof.Rows L2 Evl AX
theorem pyRs : ∀ A : List RX.Row, DV.pyL (A.map dR) = A.map fun r => PyData.tuple (r.map PyData.int)
  | [] => rfl
  | r :: A => by
    show DV.py (dR r) :: DV.pyL (A.map dR) = _
    rw [pyRs A]
    show PyData.tuple (DV.pyL (r.map DV.int)) :: _ = _
    rw [py_ints]; rfl
theorem plainRs : ∀ A : List RX.Row, DV.plainL (A.map dR) = true
  | [] => rfl
  | r :: A => by
    show (DV.plainL (r.map DV.int) && DV.plainL (A.map dR)) = true
    rw [plain_ints, plainRs A]; rfl
theorem shapedRs (A : List RX.Row) : SeqAt.shaped (dRs A).py = true := by
  have a : ∀ ns : List Int, PyData.canLayAll0 (ns.map PyData.int) = true := fun ns => by
    induction ns with
    | nil => simp [PyData.canLayAll0]
    | cons n ns ih => simp [PyData.canLayAll0, PyData.canLay0, ih]
  have b : ∀ ns : List Int, PyData.depthAll (ns.map PyData.int) ≤ 1 := fun ns => by
    induction ns with
    | nil => simp [PyData.depthAll]
    | cons n ns ih => simp [PyData.depthAll, PyData.depth]; omega
  have a2 : ∀ A : List RX.Row, PyData.canLayAll0 (A.map fun r => PyData.tuple (r.map PyData.int)) = true := fun A => by
    induction A with
    | nil => simp [PyData.canLayAll0]
    | cons r A ih => simp [PyData.canLayAll0, PyData.canLay0, ih, a]
  have b2 : ∀ A : List RX.Row, PyData.depthAll (A.map fun r => PyData.tuple (r.map PyData.int)) ≤ 2 := fun A => by
    induction A with
    | nil => simp [PyData.depthAll]
    | cons r A ih => have := b r; simp [PyData.depthAll, PyData.depth]; omega
  show SeqAt.shaped (.list (DV.pyL (A.map dR))) = true
  rw [pyRs]
  have c := b2 A
  simp [SeqAt.shaped, PyData.canLay0, PyData.depth, a2]
  omega
theorem eqv_ints : ∀ a b : List Int, PyData.eqvAll (a.map PyData.int) (b.map PyData.int) = decide (a = b)
  | [], [] => rfl
  | [], _ :: _ => by simp [PyData.eqvAll]
  | _ :: _, [] => by simp [PyData.eqvAll]
  | x :: a, y :: b => by
    simp only [List.map_cons, PyData.eqvAll, PyData.eqv]
    rw [eqv_ints a b]
    by_cases h1 : x = y <;> by_cases h2 : a = b <;> simp [h1, h2]
theorem eqvRsL : ∀ A B : List RX.Row, PyData.eqvAll (A.map fun r => PyData.tuple (r.map PyData.int)) (B.map fun r => PyData.tuple (r.map PyData.int)) = decide (A = B)
  | [], [] => rfl
  | [], _ :: _ => by simp [PyData.eqvAll]
  | _ :: _, [] => by simp [PyData.eqvAll]
  | x :: a, y :: b => by
    simp only [List.map_cons, PyData.eqvAll, PyData.eqv]
    rw [eqvRsL a b, eqv_ints]
    by_cases h1 : x = y <;> by_cases h2 : a = b <;> simp [h1, h2]
theorem eqvRs (A B : List RX.Row) : PyData.eqv (dRs A).py (dRs B).py = decide (A = B) := by
  show PyData.eqv (.list (DV.pyL (A.map dR))) (.list (DV.pyL (B.map dR))) = _
  rw [pyRs, pyRs]
  simp only [PyData.eqv]
  exact eqvRsL A B
theorem p2_eqRows {S : Sig} {A B : List RX.Row} : P2 S (rEqD S.K) (dRs A) (dRs B) (.bl (decide (A = B))) := by
  rw [← eqvRs]
  exact p2_eqD (plainRs A) (plainRs B) (shapedRs A) (shapedRs B)
end K21
namespace K21
open PySem PySem.Spec PyProof.Rows L2 Evl AX
open RX (at_ prim gcdL lead isZ redF wo addR redR)
/-- the places that are not 0 -/
def nzI (r : RX.Row) : List Int := ((List.range r.length).filter fun i => decide (at_ r i ≠ 0)).map fun i : Nat => (i : Int)
theorem nzI_nil {r : RX.Row} (h : isZ r) : nzI r = [] := by
  unfold nzI
  rw [List.filter_eq_nil_iff.mpr fun i _ => by simp [h i]]; rfl
theorem nzI_head {r : RX.Row} (h : ¬ isZ r) : (nzI r)[0]? = some (lead r : Int) := by
  have e : List.range r.length = List.range (lead r) ++ lead r :: (List.range (r.length - lead r - 1)).map (lead r + 1 + ·) := by
    have hl := RX.lead_lt h
    apply List.ext_getElem
    · simp; omega
    · intro i h1 h2
      rw [List.getElem_range, List.getElem_append]
      split
      · simp
      · rename_i q
        have q : lead r ≤ i := by simpa using q
        simp only [List.length_range]
        by_cases hi : i = lead r
        · subst hi; simp
        · rw [List.getElem_cons, dif_neg (by omega)]; simp; omega
  unfold nzI
  rw [e, List.filter_append, List.filter_eq_nil_iff.mpr fun i hi => by simp [RX.lead_before (List.mem_range.mp hi)], List.nil_append, List.filter_cons_of_pos (by simp [RX.lead_ne h]), List.map_cons]
  rfl
def nzAt (r : RX.Row) : DV → Option DV
  | .int n => if at_ r n.toNat = 0 then none else some (.int n)
  | _ => none
theorem nzAt_map (r : RX.Row) (m : Nat) : (rngD 0 m).filterMap (nzAt r) = (((List.range m).filter fun i => decide (at_ r i ≠ 0)).map fun i : Nat => (i : Int)).map DV.int := by
  unfold rngD
  generalize List.range m = xs
  induction xs with
  | nil => rfl
  | cons x xs ih =>
    rw [List.map_cons, List.filterMap_cons]
    have e : (0 + (x : Int)) = (x : Int) := by omega
    by_cases h : at_ r x = 0
    · have : nzAt r (.int (0 + (x : Int))) = none := by rw [e]; exact if_pos h
      rw [this, List.filter_cons_of_neg (by simp [h])]; exact ih
    · have : nzAt r (.int (0 + (x : Int))) = some (.int (x : Int)) := by rw [e]; exact if_neg h
      rw [this, List.filter_cons_of_pos (by simp [h]), List.map_cons, List.map_cons]
      exact congrArg _ ih
section
variable {P : Program} {w : World} {S : Sig} {mg : Str → Option Value} {base : Heap}
def W_taken : AW1 := fun avs k => ∃ (T L : List RX.Row) (r : RX.Row) (n : Nat), n ≤ 1000 ∧ T.length < 1000 ∧ RX.Red n L ∧ T.Perm L ∧ r.length = n ∧ RX.SmA L r ∧ avs = [.own (some 0) (.dct (kvR T)), .imm (dR r)] ∧ ∀ (T' : List RX.Row) (b : Bool), T'.Perm (addR L r) → k [.dct (kvR T')] (.imm (.bl b))
theorem ok_taken {f : Addr} {fd : FuncData} (F : L2.Fun S.K "_law_mw_taken" "_law_mw_taken" sMwTaken f fd) (C1 : Can P w mg base S 2 "_law_mw_primitive" ["row"] W_mwprim) (C2 : Can P w mg base S 3 "_law_mw_without" ["row", "lead_v", "other"] W_mwwo) (m1 : mg "len" = none) (m2 : mg "range" = none) (m3 : mg "sorted" = none) (m4 : mg "list" = none) :
    FnOk P w S.K mg base CX0 4 f fd ["found", "row"] (spA S 2 W_taken) := by
  refine fn_ok F scMwTaken fun cdv A outer s H E hr avs kk hl ⟨T, L, r, n, hn, hz, R, hp, hrl, hsm, ha, hk⟩ => ?_
  subst ha
  have hT : ∀ o ∈ T, o ∈ L := fun o ho => hp.mem_iff.mp ho
  have dst := perm_leads R hp
  have hlenL : ∀ o ∈ L, o.length = n := fun o h => (R.each o h).2
  have hsr : RX.Sm r := hsm.1.here
  have smP := RX.SmF.prim hlenL hrl hsm.1
  have eN := RX.prim_redF hlenL hrl
  have ekeys : (kvR T).map (fun q => kD q.1) = (T.map fun r => (lead r : Int)).map DV.int := by unfold kvR; rw [List.map_map, List.map_map]; rfl
  refine Do.cons (DoS.set 2 scMwTaken.nd (AE.call C1 (hr.mono (by decide)) rfl (AA.cons (AE.var 1 rfl (AA.nil ⟨OkA.d rfl rfl, r, _, by omega, hsr, .inr rfl, rfl, _, rfl, ?_⟩)))))
  show Do S _ _ [some (.own (some 0) (.dct (kvR T))), some (.imm (dR r)), some (.imm (dR (prim r))), none, none, none] _
  refine Do.cons (DoS.forL rfl rfl PassesOwn.never (AF.imm (AF.sortI m3 (AF.imm (AF.keysO 0 rfl m4 rfl ⟨_, rfl, (T.map fun r => (lead r : Int)), by rw [ekeys], fun ns' h1 h2 => ⟨_, rfl, _, rfl, fun i δ => ∃ o : Option Int, δ = [some (.own (some 0) (.dct (kvR T))), some (.imm (dR r)), some (.imm (dR (redF (L.take i) (prim r)))), o.map fun m => .imm (.int m), none, none], ⟨none, rfl⟩, ?_, ?_⟩⟩)) rfl)))
  · rintro i x δ2 hx ⟨o, rfl⟩
    rw [sorted_leads R hp h1 h2, List.map_map] at hx
    obtain ⟨t, ht, rfl⟩ := map_get hx
    have htm := List.mem_of_getElem? ht
    have hi : i < L.length := (List.getElem?_eq_some_iff.mp ht).1
    have sm := smF_drop i smP
    have ed : L.drop i = t :: L.drop (i + 1) := by
      rw [List.drop_eq_getElem_cons hi]
      congr 1
      exact Option.some.inj (by rw [← ht]; exact (List.getElem?_eq_getElem hi).symm)
    rw [ed] at sm
    obtain ⟨s1, s2, s3, _⟩ := sm
    have hrt : (redF (L.take i) (prim r)).length = n := RX.redF_len (fun o h => hlenL o (List.mem_of_mem_take h)) (by rw [RX.prim_len, hrl])
    refine ⟨[3], AG.name 3 scMwTaken.nd ?_⟩
    refine Do.one (DoS.set 2 scMwTaken.nd (AE.call C2 hr rfl (AA.cons (AE.var 2 rfl (AA.cons (AE.var 3 rfl (AA.cons (AE.dgetO 0 (hu_of hr) rfl (AE.var 3 rfl ⟨_, kvR T, .inl (lead t : Int), dR t, rfl, rfl, dget_kv dst (hp.mem_iff.mpr htm), AA.nil ⟨OkA.d rfl rfl, redF (L.take i) (prim r), t, by rw [hrt, hlenL t htm], by omega, (R.each t htm).1.nz, s1, s2, s3, rfl, _, rfl, ?_⟩⟩)))))))))
    exact ⟨some (lead t : Int), by rw [redF_take ht] <;> rfl⟩
  · rintro δ2 ⟨o, rfl⟩
    rw [sorted_leads R hp h1 h2, List.length_map, List.length_map, List.take_length, ← eN]
    have hNs : RX.Sm (prim (redF L r)) := hsm.1.last.prim
    have hNl : (prim (redF L r)).length = n := by rw [RX.prim_len]; exact RX.redF_len hlenL hrl
    have hadd : addR L r = if RX.isZb (prim (redF L r)) = true then L else RX.ins (prim (redF L r)) (L.map fun o => wo o (prim (redF L r)) (lead (prim (redF L r)))) := rfl
    have hN1 : ¬ isZ (prim (redF L r)) → RX.New1 L n (prim (redF L r)) := RX.New1.mk' R hrl
    have hsm2 := hsm.2
    generalize prim (redF L r) = N at *
    refine Do.cons (DoS.setLcR [("at", 5)] 4 rfl scMwTaken.nd m2 (blkOk_by (N := ["found", "row", "left", "lead_v", "here", "at"]) (sc := defScope sMwTaken) (by decide +kernel)) (AE.bi call_len_seq m1 PySem.boot_len (AA.cons (AE.var 2 rfl (AA.nil ⟨[dR N], _, rfl, (pc_len rfl).n, N.length, by simp, by omega, by omega, Comp.filt [5] (nzAt N) (by decide) (by rw [rngD_len]; simp; omega) (noOwn (by cases o <;> rfl)) ?_ ?_⟩)))))
    · intro i x hx s0 H0 C0 cl fp
      obtain ⟨hi, rfl⟩ := range_get (lo := 0) hx
      have hi : i < N.length := by simpa using hi
      rw [Int.zero_add]
      refine AG.name 5 scMwTaken.nd fun s0 H0 C0 cl fp => ATs.one (AT.cmp op_ne (AE.sub ix_tup (AE.var 2 rfl (AE.var 5 rfl ⟨_, p2_ixT (ix_row hi), AE.int ⟨_, p2_neI, rfl, ?_⟩⟩))))
      by_cases h0 : at_ N i = 0
      · rw [if_neg (by simp [h0])]; exact if_pos h0
      · rw [if_pos (by simp [h0])]
        exact fun s0 H0 C0 cl fp => AE.var 5 rfl ⟨rfl, if_neg h0⟩
    · rw [Int.toNat_natCast, nzAt_map]
      show Do S _ _ [some (.own (some 0) (.dct (kvR T))), some (.imm (dR r)), some (.imm (dR N)), o.map fun m => .imm (.int m), some (.own none (.lst ((nzI N).map DV.int))), none] _
      have hnl : (nzI N).length ≤ 100000 := by
        unfold nzI
        rw [List.length_map]
        exact Nat.le_trans (List.length_filter_le _ _) (by rw [List.length_range]; omega)
      refine Do.cons (DoS.ite (AT.cmpO 4 (op_eqD hr.units) rfl (AE.lst (AA.nil ⟨[], rfl, by decide, _, _, _, rfl, p2o_eq (plain_ints _) rfl (by show SeqAt.shaped (.list (DV.pyL _)) = true; rw [py_ints]; exact shapedI _ hnl) (by decide), ?_⟩))))
      by_cases hzz : isZ N
      · have e0 : addR L r = L := by rw [hadd, if_pos (RX.isZb_iff.mpr hzz)]
        rw [nzI_nil hzz, if_pos (by decide)]
        exact Do.one (DoS.ret (AE.bl (fin1 0 rfl rfl (hk T false (by rw [e0]; exact hp)))))
      · have hh := nzI_head hzz
        have N1 := hN1 hzz
        obtain ⟨tl, etl⟩ : ∃ tl, nzI N = (lead N : Int) :: tl := by
          cases q : nzI N with
          | nil => rw [q] at hh; cases hh
          | cons y t => rw [q] at hh; exact ⟨t, by rw [Option.some.inj hh]⟩
        have e0 : addR L r = RX.ins N (L.map fun o => wo o N (lead N)) := by rw [hadd, if_neg fun z => hzz (RX.isZb_iff.mp z)]
        have hix : atI ((nzI N).map DV.int) ((0 : Nat) : Int) = some (.int (lead N : Nat)) := atI_nat (by rw [etl]; rfl)
        rw [if_neg (by show ¬ PyData.eqv (.list (DV.pyL ((nzI N).map DV.int))) (.list []) = true; rw [etl]; simp [DV.pyL, PyData.eqv, PyData.eqvAll])]
        generalize nzI N = I at *
        refine Do.nil ?_
        have hW : ∀ o ∈ T, lead (wo o N (lead N)) = lead o := fun o ho => (N1.lead R (hT o ho)).1
        refine Do.cons (DoS.forL rfl rfl PassesOwn.never (AF.imm (AF.keysO 0 rfl m4 rfl ⟨_, rfl, _, rfl, fun i δ => ∃ o : Option Int, δ = [some (.own (some 0) (.dct (kvR ((T.take i).map (fun o => wo o N (lead N)) ++ T.drop i)))), some (.imm (dR r)), some (.imm (dR N)), o.map fun m => .imm (.int m), some (.own none (.lst (I.map DV.int))), none], ⟨o, rfl⟩, ?_, ?_⟩)))
        · rintro i x δ2 hx ⟨o, rfl⟩
          rw [ekeys, List.map_map] at hx
          obtain ⟨t, ht, rfl⟩ := map_get hx
          have htm := List.mem_of_getElem? ht
          have hi : i < T.length := (List.getElem?_eq_some_iff.mp ht).1
          have et : t = T[i] := Option.some.inj (by rw [← ht]; exact List.getElem?_eq_getElem hi)
          have ed : T.drop i = t :: T.drop (i + 1) := by rw [List.drop_eq_getElem_cons hi, et]
          have eT : (T.take (i + 1)).map (fun o => wo o N (lead N)) ++ T.drop (i + 1) = (T.take i).map (fun o => wo o N (lead N)) ++ wo t N (lead N) :: T.drop (i + 1) := by
            rw [List.take_add_one, ht, List.map_append]; simp
          have dif : ∀ j, j < T.length → j ≠ i → ∀ y, T[j]? = some y → lead y ≠ lead t := fun j hj ne y hy => by
            have ey : y = T[j] := Option.some.inj (by rw [← hy]; exact List.getElem?_eq_getElem hj)
            rw [ey, et]
            rcases Nat.lt_or_gt_of_ne ne with q | q
            · exact List.pairwise_iff_getElem.mp dst j i hj hi q
            · exact (List.pairwise_iff_getElem.mp dst i j hi hj q).symm
          have hA : ∀ x ∈ (T.take i).map (fun o => wo o N (lead N)), lead x ≠ lead t := fun x hx => by
            obtain ⟨y, hy, rfl⟩ := List.mem_map.mp hx
            rw [hW y (List.mem_of_mem_take hy)]
            obtain ⟨j, hj⟩ := List.getElem?_of_mem hy
            rw [List.getElem?_take] at hj
            split at hj
            · exact dif j (by omega) (by omega) y hj
            · cases hj
          have hB : ∀ x ∈ T.drop (i + 1), lead x ≠ lead t := fun x hx => by
            obtain ⟨j, hj⟩ := List.getElem?_of_mem hx
            rw [List.getElem?_drop] at hj
            exact dif (i + 1 + j) ((List.getElem?_eq_some_iff.mp hj).1) (by omega) x hj
          have hget : dget (kvR ((T.take i).map (fun o => wo o N (lead N)) ++ T.drop i)) (.inl (lead t : Int)) = some (dR t) := by
            rw [ed]
            have := dput_at (A := (T.take i).map fun o => wo o N (lead N)) (B := T.drop (i + 1)) (o := t) (o' := t) rfl hA hB
            refine dget_kv ?_ (by simp)
            have lw : ((T.take i).map (fun o => wo o N (lead N)) ++ t :: T.drop (i + 1)).map lead = T.map lead := by
              rw [List.map_append, List.map_map, ← ed]
              have : (T.take i).map (lead ∘ fun o => wo o N (lead N)) = (T.take i).map lead := List.map_congr_left fun o ho => hW o (List.mem_of_mem_take ho)
              rw [this, ← List.map_append, List.take_append_drop]
            have : (T.map lead).Pairwise (· ≠ ·) := List.pairwise_map.mpr dst
            rw [← lw] at this
            exact List.pairwise_map.mp this
          have hLt := hT t htm
          refine ⟨[3], AG.name 3 scMwTaken.nd ?_⟩
          refine Do.one (DoS.putD 0 (hu_of hr) rfl (AE.call C2 hr rfl (AA.cons (AE.dgetO 0 (hu_of hr) rfl (AE.var 3 rfl ⟨_, _, .inl (lead t : Int), dR t, rfl, rfl, hget, AA.cons (AE.ixO 4 rfl (AE.int ⟨_, _, _, _, rfl, rfl, hix, AA.cons (AE.var 2 rfl (AA.nil ⟨OkA.d rfl rfl, t, N, by rw [hlenL t hLt, hNl], by rw [hlenL t hLt]; exact hn, N1.pr.nz, smF_mem hsm.1 hLt, hNs, hsm2 t hLt, rfl, _, rfl, ?_⟩))⟩))⟩)))))
          refine AE.var 3 rfl ⟨_, _, .inl (lead t : Int), rfl, rfl, ?_, ?_⟩
          · unfold kvR; simp; omega
          · refine ⟨some (lead t : Int), ?_⟩
            rw [eT, ed, dput_at (hW t htm) hA hB]; rfl
        · rintro δ2 ⟨o, rfl⟩
          rw [ekeys, List.length_map, List.length_map, List.take_length, List.drop_length, List.append_nil]
          refine Do.cons (DoS.putD 0 (hu_of hr) rfl (AE.var 2 rfl (AE.ixO 4 rfl (AE.int ⟨_, _, _, _, rfl, rfl, hix, _, _, .inl (lead N : Int), rfl, rfl, ?_, ?_⟩))))
          · unfold kvR; simp; omega
          · rw [dput_new fun x hx => by
              obtain ⟨o, ho, rfl⟩ := List.mem_map.mp hx
              rw [hW o ho]
              exact N1.ne (hT o ho)]
            refine Do.one (DoS.ret (AE.bl (fin1 0 rfl rfl (hk _ true ?_))))
            rw [e0]
            exact ((List.perm_append_comm (l₂ := [N])).trans ((hp.map _).cons N)).trans (RX.ins_perm N _).symm
end
end K21
namespace K21
open PySem PySem.Spec PyProof.Rows L2 Evl AX
open RX (at_ prim gcdL lead isZ redF wo addR redR)
section
variable {P : Program} {w : World} {S : Sig} {mg : Str → Option Value} {base : Heap}
def W_mwred : AW1 := fun avs k => ∃ (ro : List RX.Row) (n : Nat), n ≤ 1000 ∧ ro.length < 1000 ∧ (∀ r ∈ ro, r.length = n) ∧ RX.SmR [] ro ∧ avs = [.imm (dRs ro)] ∧ k [] (.imm (dRs (redR ro)))
theorem ok_mwred {f : Addr} {fd : FuncData} (F : L2.Fun S.K "_law_mw_reduced" "_law_mw_reduced" sMwRed f fd) (C : Can P w mg base S 4 "_law_mw_taken" ["found", "row"] W_taken) (m3 : mg "sorted" = none) (m4 : mg "list" = none) :
    FnOk P w S.K mg base CX0 5 f fd ["some"] (spA S 1 W_mwred) := by
  refine fn_ok F scMwRed fun cdv A outer s H E hr avs kk hl ⟨ro, n, hn, hz, hlen, hsm, ha, hk⟩ => ?_
  subst ha
  refine Do.cons (DoS.setF 1 scMwRed.nd (AF.dict ?_))
  refine Do.cons (DoS.forL rfl rfl PassesOwn.never (AE.var 0 rfl ⟨_, rfl, fun i δ => ∃ (T : List RX.Row) (o : Option RX.Row), δ = [some (.imm (dRs ro)), some (.own none (.dct (kvR T))), o.map fun t => .imm (dR t), none] ∧ T.Perm (redR (ro.take i)), ⟨[], none, rfl, .refl _⟩, ?_, ?_⟩))
  · rintro i x δ2 hx ⟨T, o, rfl, hp⟩
    obtain ⟨t, ht, rfl⟩ := map_get hx
    have htm : t ∈ ro := List.mem_of_getElem? ht
    have hlT : T.length < 1000 := by
      have := redR_len (ro.take i)
      rw [← hp.length_eq, List.length_take] at this
      omega
    refine ⟨[2], AG.name 2 scMwRed.nd ?_⟩
    refine Do.one (DoS.expr (AE.call C hr rfl (AA.own 1 rfl (AA.cons (AE.var 2 rfl (AA.nil ⟨OkA.one (i := 1) rfl rfl rfl, T, redR (ro.take i), t, n, hn, hlT, redR_red fun r hr => hlen r (List.mem_of_mem_take hr), hp, hlen t htm, smR_at hsm ht, rfl, fun T' b hT' => ⟨_, rfl, T', some t, rfl, ?_⟩⟩))))))
    rw [redR_take ht]; exact hT'
  · rintro δ2 ⟨T, o, rfl, hp⟩
    rw [List.length_map, List.take_length] at hp
    have R := redR_red (n := n) hlen
    have dst := perm_leads R hp
    have ekeys : (kvR T).map (fun q => kD q.1) = (T.map fun r => (lead r : Int)).map DV.int := by unfold kvR; rw [List.map_map, List.map_map]; rfl
    have hll := redR_len ro
    refine Do.one (DoS.ret (AF.imm (AF.lcL [("lead_v", 3)] rfl scMwRed.nd rfl (blkOk_by (N := ["some", "found", "row", "lead_v"]) (sc := defScope sMwRed) (by decide +kernel)) (AF.imm (AF.sortI m3 (AF.imm (AF.keysO 1 rfl m4 rfl ⟨_, rfl, (T.map fun r => (lead r : Int)), by rw [ekeys], fun ns' h1 h2 => ⟨_, rfl, _, rfl, ?_⟩⟩)) rfl)))))
    rw [sorted_leads R hp h1 h2, List.map_map]
    refine Comp.to [3] ((redR ro).map dR) (by decide) (by simp) (by simp; omega) (noOwn (by cases o <;> rfl)) ?_ ⟨_, rfl, fin0 rfl hk⟩
    intro i x y hx hy s0 H0 C0 cl fp
    obtain ⟨t, ht, rfl⟩ := map_get hx
    obtain ⟨u, hu, rfl⟩ := map_get hy
    rw [ht] at hu; cases hu
    exact AG.name 3 scMwRed.nd fun s0 H0 C0 cl fp => ATs.nil ⟨rfl, fun s0 H0 C0 cl fp => AE.dgetO 1 (hu_of hr) rfl (AE.var 3 rfl ⟨_, kvR T, .inl (lead t : Int), dR t, rfl, rfl, dget_kv dst (hp.mem_iff.mpr (List.mem_of_getElem? ht)), rfl, rfl⟩)⟩
end
end K21
namespace K21
open PySem PySem.Spec PyProof.Rows L2 Evl AX
abbrev sPool : Stmt := topS 20
abbrev sTake : Stmt := topS 21
abbrev sOne : Stmt := topS 22
abbrev sMixed : Stmt := topS 23
theorem scMixed : FnScope ["jar", "things", "spare", "found", "go"] ["jar", "things"] (defScope sMixed) := ⟨rfl, rfl, rfl, by decide +kernel, rfl, by decide +kernel, by decide +kernel⟩
theorem scPool : FnScope ["script", "digits", "stirred", "at", "cell"] ["script"] (defScope sPool) := ⟨rfl, rfl, rfl, by decide +kernel, rfl, by decide +kernel, by decide +kernel⟩
theorem scTake : FnScope ["jar", "many", "found"] ["jar", "many"] (defScope sTake) := ⟨rfl, rfl, rfl, by decide +kernel, rfl, by decide +kernel, by decide +kernel⟩
theorem scOne : FnScope ["jar", "things"] ["jar", "things"] (defScope sOne) := ⟨rfl, rfl, rfl, by decide +kernel, rfl, by decide +kernel, by decide +kernel⟩
/-- a jar after at most m takings by the stirred number -/
def Jar (m : Nat) (j : List DV) : Prop := ∃ d s c : Int, j = [.int d, .int s, .int c] ∧ 0 ≤ d ∧ d.natAbs < 2 ^ 500 ∧ 0 ≤ s ∧ s < 2147483647 ∧ 0 ≤ c ∧ c ≤ m
theorem Jar.mono {m n : Nat} {j : List DV} (h : Jar m j) (hn : m ≤ n) : Jar n j := by
  obtain ⟨d, s, c, h1, h2, h3, h4, h5, h6, h7⟩ := h
  exact ⟨d, s, c, h1, h2, h3, h4, h5, h6, by omega⟩
/-- as many takings as matter -/
def cap : Nat := 1000000000
section
variable {P : Program} {w : World} {S : Sig} {mg : Str → Option Value} {base : Heap}
def W_take : AW1 := fun avs k => ∃ (j : List DV) (m : Nat) (n : Int), Jar m j ∧ m ≤ cap ∧ 1 ≤ n ∧ n ≤ 1000000000 ∧ avs = [.own (some 0) (.lst j), .imm (.int n)] ∧ ∀ (j' : List DV) (v : Int), Jar (m + 1) j' → 0 ≤ v → v < n → k [.lst j'] (.imm (.int v))
theorem ok_take {f : Addr} {fd : FuncData} (F : L2.Fun S.K "_law_take" "_law_take" sTake f fd) (mi : mg "int" = none) : FnOk P w S.K mg base CX0 1 f fd ["jar", "many"] (spA S 2 W_take) := by
  refine fn_ok F scTake fun cdv A outer s H E hr avs kk hl ⟨j, m, n, ⟨d, t, c, hj, h1, h2, h3, h4, h5, h6⟩, hm, hn1, hn2, ha, hk⟩ => ?_
  subst ha hj
  unfold cap at hm
  refine Do.cons (DoS.ite (AT.cmp op_gt (AE.ixO 0 rfl (AE.int ⟨_, _, 0, .int d, rfl, rfl, rfl, AE.int ⟨_, p2_iib, ?_⟩⟩))))
  by_cases hd : 0 < d
  · rw [if_pos (by simpa using hd)]
    refine Do.cons (DoS.set 2 scTake.nd (AE.bin op_mod (AE.bt call_int1 mi (by decide +kernel) (AA.cons (AE.ixO 0 rfl (AE.int ⟨_, _, 0, .int d, rfl, rfl, rfl, AA.nil ⟨[.int d], _, rfl, pc_int.n, AE.var 1 rfl ⟨_, p2_ciii (by omega), ?_⟩⟩⟩))))))
    refine Do.cons (DoS.putL 0 rfl (AE.bin op_fdivW (AE.ixO 0 rfl (AE.int ⟨_, _, 0, .int d, rfl, rfl, rfl, AE.var 1 rfl ⟨_, p2_ciii (wide_div (b := 30) (by omega) (by omega) (by decide) (by decide)), AE.int ⟨_, _, 0, 0, rfl, rfl, rfl, ?_⟩⟩⟩))))
    have q1 : 0 ≤ d / n := Int.ediv_nonneg (by omega) (by omega)
    have q2 : d / n ≤ d := Int.ediv_le_self _ (by omega)
    exact Do.one (DoS.ret (AE.var 2 rfl (fin1 0 rfl rfl (hk [.int (d / n), .int t, .int c] _ ⟨_, _, _, rfl, q1, wide_le q1 q2 h2, h3, h4, h5, by omega⟩ (Int.emod_nonneg _ (by omega)) (Int.emod_lt_of_pos _ (by omega))))))
  · rw [if_neg (by simpa using hd)]
    refine Do.nil ?_
    refine Do.cons (DoS.putL 0 rfl (AE.bin op_add (AE.ixO 0 rfl (AE.int ⟨_, _, 2, .int c, rfl, rfl, rfl, AE.int ⟨_, p2_iii, AE.int ⟨_, _, 2, 2, rfl, rfl, rfl, ?_⟩⟩⟩))))
    show Do S _ _ [some (.own (some 0) (.lst [.int d, .int t, .int (c + 1)])), some (.imm (.int n)), none] _
    refine Do.cons (DoS.putL 0 rfl (AE.bin op_mod (AE.bt call_int1 mi (by decide +kernel) (AA.cons (AE.bin op_add (AE.bin op_add (AE.bin op_mulW (AE.ixO 0 rfl (AE.int ⟨_, _, 1, .int t, rfl, rfl, rfl, AE.int ⟨_, p2_ciii ?_, ?_⟩⟩)))))))))
    · exact wide_mul (a := 31) (b := 16) (by omega) (by decide) (by decide) (by decide) (by decide)
    · refine AE.bin op_mulW (AE.int (AE.ixO 0 rfl (AE.int ⟨_, _, 2, .int (c + 1), rfl, rfl, rfl, _, p2_ciii ?_, _, p2_iii, AE.int ⟨_, p2_iii, AA.nil ⟨[.int _], _, rfl, pc_int.n, AE.int ⟨_, p2_ciii (by decide), AE.int ⟨_, _, 1, 1, rfl, rfl, rfl, ?_⟩⟩⟩⟩⟩)))
      · exact wide_mul (a := 13) (b := 31) (by decide) (by omega) (by decide) (by decide) (by decide)
      · generalize hT : (t * 39373 + 7919 * (c + 1) + 7) % 2147483647 = u
        have u1 : 0 ≤ u := by rw [← hT]; exact Int.emod_nonneg _ (by decide)
        have u2 : u < 2147483647 := by rw [← hT]; exact Int.emod_lt_of_pos _ (by decide)
        show Do S _ _ [some (.own (some 0) (.lst [.int d, .int u, .int (c + 1)])), some (.imm (.int n)), none] _
        refine Do.one (DoS.ret (AE.bin op_mod (AE.bt call_int1 mi (by decide +kernel) (AA.cons (AE.bin op_fdivW (AE.bin op_mod (AE.bt call_int1 mi (by decide +kernel) (AA.cons (AE.bin op_mulW (AE.ixO 0 rfl (AE.int ⟨_, _, 1, .int u, rfl, rfl, rfl, AE.ixO 0 rfl (AE.int ⟨_, _, 1, .int u, rfl, rfl, rfl, _, p2_ciii ?_, AA.nil ⟨[.int _], _, rfl, pc_int.n, AE.int ⟨_, p2_ciii (by decide), AE.int ⟨_, p2_ciii ?_, AA.nil ⟨[.int _], _, rfl, pc_int.n, AE.var 1 rfl ⟨_, p2_ciii (by omega), ?_⟩⟩⟩⟩⟩⟩)⟩)))))))))))
        · exact wide_mul (a := 31) (b := 31) (by omega) (by omega) (by decide) (by decide) (by decide)
        · exact wide_div (b := 6) (by decide) (by decide) (by decide) (by decide)
        · refine fin1 0 rfl rfl (hk _ _ ⟨d, u, c + 1, rfl, h1, h2, u1, u2, by omega, by omega⟩ (Int.emod_nonneg _ (by omega)) (Int.emod_lt_of_pos _ (by omega)))
end
end K21
namespace K21
open PySem PySem.Spec PyProof.Rows L2 Evl AX
theorem two500 : (10 : Nat) ^ 120 ≤ 2 ^ 500 := by decide +kernel
section
variable {P : Program} {w : World} {S : Sig} {mg : Str → Option Value} {base : Heap}
def W_pool : AW1 := fun avs k => ∃ ns : List Int, ns.length ≤ 100000 ∧ avs = [.imm (.scr ns)] ∧ ∀ j, Jar 0 j → k [] (.own none (.lst j))
theorem ok_pool {f : Addr} {fd : FuncData} (F : L2.Fun S.K "_law_pool" "_law_pool" sPool f fd) (mi : mg "int" = none) (mm : mg "max" = none) (ml : mg "len" = none) (mr : mg "range" = none) : FnOk P w S.K mg base CX0 1 f fd ["script"] (spA S 1 W_pool) := by
  refine fn_ok F scPool fun cdv A outer s H E hr avs kk hl ⟨ns, hz, ha, hk⟩ => ?_
  subst ha
  refine Do.cons (DoS.asg (js := [1, 2]) (AE.tup (AA.cons (AE.int (AA.cons (AE.int (AA.nil ⟨[.int 0, .int 7], rfl, by decide, AG.tup rfl rfl (AGs.cons 1 scPool.nd (AGs.cons 2 scPool.nd (AGs.nil ?_)))⟩)))))))
  refine Do.cons (DoS.forR rfl PassesOwn.never mr (AE.bi call_len_seq ml PySem.boot_len (AA.cons (AE.var 0 rfl (AA.nil ⟨[.scr ns], _, rfl, (pc_len rfl).n, ns.length, by simp, by omega, by omega, fun i δ => ∃ (d t : Int) (o o' : Option Int), δ = [some (.imm (.scr ns)), some (.imm (.int d)), some (.imm (.int t)), o.map fun n => .imm (.int n), o'.map fun n => .imm (.int n)] ∧ 0 ≤ d ∧ d < 10 ^ 120 ∧ 0 ≤ t ∧ t < 2147483647, ⟨0, 7, none, none, rfl, by decide, by decide, by decide, by decide⟩, ?_, ?_⟩)))))
  · rintro i x δ2 hx ⟨d, t, o, o', rfl, h1, h2, h3, h4⟩
    obtain ⟨hi, rfl⟩ := range_get (lo := 0) hx
    have hi : i < ns.length := by simpa using hi
    rw [Int.zero_add]
    have hix : atI ns ((i : Nat) : Int) = some ns[i] := by
      unfold atI ixN
      rw [if_pos (by omega), if_pos (by omega)]
      exact List.getElem?_eq_getElem hi
    refine ⟨[3], AG.name 3 scPool.nd ?_⟩
    refine Do.cons (DoS.set 4 scPool.nd (AE.bt call_int1 mi (by decide +kernel) (AA.cons (AE.bi (call_max2 rfl) mm (by decide +kernel) (AA.cons (AE.sub ix_list (AE.var 0 rfl (AE.var 3 rfl ⟨_, p2_ixScr hix, ?_⟩))))))))
    refine AA.cons (AE.bin op_sub (AE.un un_neg (AE.int ⟨_, p1_neg, AE.sub ix_list (AE.var 0 rfl (AE.var 3 rfl ⟨_, p2_ixScr hix, _, p2_iii, AA.nil ⟨[.int _, .int _], _, rfl, pc_max2.n, AA.nil ⟨[.int _], _, rfl, pc_int.n, ?_⟩⟩⟩))⟩)))
    generalize (if -1 - ns[i] > ns[i] then -1 - ns[i] else ns[i]) = c
    show Do S _ _ [some (.imm (.scr ns)), some (.imm (.int d)), some (.imm (.int t)), some (.imm (.int (i : Nat))), some (.imm (.int c))] _
    refine Do.cons (DoS.set 2 scPool.nd (AE.bin op_mod (AE.bt call_int1 mi (by decide +kernel) (AA.cons (AE.bin op_add (AE.bin op_add (AE.bin op_mulW (AE.var 2 rfl (AE.int ⟨_, p2_ciii ?_, AE.bin op_mod (AE.var 4 rfl (AE.int ⟨_, p2_ciii (by decide), _, p2_iii, AE.int ⟨_, p2_iii, AA.nil ⟨[.int _], _, rfl, pc_int.n, AE.int ⟨_, p2_ciii (by decide), ?_⟩⟩⟩⟩))⟩)))))))))
    · exact wide_mul (a := 31) (b := 16) (by omega) (by decide) (by decide) (by decide) (by decide)
    generalize hT : (t * 48271 + c % 2147483629 + 11) % 2147483647 = u
    have u1 : 0 ≤ u := by rw [← hT]; exact Int.emod_nonneg _ (by decide)
    have u2 : u < 2147483647 := by rw [← hT]; exact Int.emod_lt_of_pos _ (by decide)
    show Do S _ _ [some (.imm (.scr ns)), some (.imm (.int d)), some (.imm (.int u)), some (.imm (.int (i : Nat))), some (.imm (.int c))] _
    have cp : ∀ n : Int, 0 ≤ n → n ≤ 1000000 → CPow 10 n := fun n a b => ⟨a, b, by decide⟩
    have keep : ∀ v : Int, 0 ≤ v → v < 10 ^ 120 → (∃ (d t : Int) (o o' : Option Int), ([some (.imm (.scr ns)), some (.imm (.int v)), some (.imm (.int u)), some (.imm (.int (i : Nat))), some (.imm (.int c))] : Sto) = [some (.imm (.scr ns)), some (.imm (.int d)), some (.imm (.int t)), o.map fun n => .imm (.int n), o'.map fun n => .imm (.int n)] ∧ 0 ≤ d ∧ d < 10 ^ 120 ∧ 0 ≤ t ∧ t < 2147483647) := fun v a b => ⟨v, u, some (i : Int), some c, rfl, a, b, u1, u2⟩
    have z60 : ((10 : Int) ^ (60 : Int).toNat) = 10 ^ 60 := rfl
    have z12 : ((10 : Int) ^ (12 : Int).toNat) = 10 ^ 12 := rfl
    refine Do.one (DoS.set 1 scPool.nd (AE.ite (AT.w (AW.and (AT.cmp op_ge (AE.var 4 rfl (AE.bin op_pow (AE.int (AE.int ⟨_, p2_ciii (cp 12 (by decide) (by decide)), _, p2_iib, ?_⟩)))))))))
    by_cases hc : ((10 : Int) ^ (12 : Int).toNat) ≤ c
    · rw [if_pos (by simpa using hc)]
      refine AW.and1 (AT.cmp op_lt (AE.var 1 rfl (AE.bin op_pow (AE.int (AE.int ⟨_, p2_ciii (cp 60 (by decide) (by decide)), _, p2_iib, ?_⟩)))))
      by_cases hd : d < ((10 : Int) ^ (60 : Int).toNat)
      · rw [if_pos (by simpa using hd)]
        refine AE.bt call_int1 mi (by decide +kernel) (AA.cons (AE.bin op_add (AE.bin op_mulW (AE.var 1 rfl (AE.bin op_pow (AE.int (AE.int ⟨_, p2_ciii (cp 60 (by decide) (by decide)), _, p2_ciii ?_, ?_⟩)))))))
        · rw [z60] at *
          exact wide_mul (a := 500) (b := 500) (Nat.lt_of_lt_of_le (show d.natAbs < 10 ^ 120 by omega) two500) (Nat.lt_of_lt_of_le (show ((10 : Int) ^ 60).natAbs < 10 ^ 120 by decide +kernel) two500) (by decide) (by decide) (by decide)
        · refine AE.bin op_mod (AE.var 4 rfl (AE.bin op_pow (AE.int (AE.int ⟨_, p2_ciii (cp 60 (by decide) (by decide)), _, p2_ciii (by rw [z60]; decide), _, p2_iii, AA.nil ⟨[.int _], _, rfl, pc_int.n, keep _ ?_ ?_⟩⟩))))
          · rw [z60] at *
            have := Int.emod_nonneg c (show (10 : Int) ^ 60 ≠ 0 by decide)
            omega
          · rw [z60] at *
            have := Int.emod_lt_of_pos c (show (0 : Int) < 10 ^ 60 by decide)
            omega
      · rw [if_neg (by simpa using hd)]
        exact AE.var 1 rfl (keep d h1 h2)
    · rw [if_neg (by simpa using hc), if_neg Bool.false_ne_true]
      exact AE.var 1 rfl (keep d h1 h2)
  · rintro δ2 ⟨d, t, o, o', rfl, h1, h2, h3, h4⟩
    refine Do.one (DoS.retF (AF.lst (AA.cons (AE.var 1 rfl (AA.cons (AE.var 2 rfl (AA.cons (AE.int (AA.nil ⟨[.int d, .int t, .int 0], rfl, by simp, fin0 rfl (hk [.int d, .int t, .int 0] ⟨d, t, 0, rfl, h1, ?_, h3, h4, by decide, by decide⟩)⟩)))))))))
    have : d.natAbs < 10 ^ 120 := by omega
    exact Nat.lt_of_lt_of_le this two500
end
end K21
namespace K21
open PySem PySem.Spec PyProof.Rows L2 Evl AX
theorem atI_int {ds : List DV} {v : Int} (h0 : 0 ≤ v) (h1 : v < ds.length) : ∃ d, d ∈ ds ∧ atI ds v = some d := by
  have hv : v.toNat < ds.length := by omega
  refine ⟨ds[v.toNat], List.getElem_mem hv, ?_⟩
  have := atI_nat (List.getElem?_eq_getElem hv)
  rwa [Int.toNat_of_nonneg h0] at this
theorem erase_perm {α : Type} : ∀ {xs : List α} {i : Nat} (h : i < xs.length), (xs[i] :: xs.eraseIdx i).Perm xs
  | x :: xs, 0, _ => .refl _
  | x :: xs, i + 1, h => (List.Perm.swap x _ _).trans ((erase_perm (xs := xs) (i := i) (by simpa using h)).cons x)
section
variable {P : Program} {w : World} {S : Sig} {mg : Str → Option Value} {base : Heap}
def W_one : AW1 := fun avs k => ∃ (j ds : List DV) (m : Nat), Jar m j ∧ m ≤ cap ∧ ds ≠ [] ∧ ds.length ≤ 100000 ∧ ((avs = [.own (some 0) (.lst j), .imm (.lst ds)] ∧ ∀ j' d, Jar (m + 1) j' → d ∈ ds → k [.lst j'] (.imm d)) ∨ (avs = [.own (some 0) (.lst j), .own (some 1) (.lst ds)] ∧ ∀ j' d, Jar (m + 1) j' → d ∈ ds → k [.lst j', .lst ds] (.imm d)))
theorem ok_one {f : Addr} {fd : FuncData} (F : L2.Fun S.K "_law_one" "_law_one" sOne f fd) (C : Can P w mg base S 1 "_law_take" ["jar", "many"] W_take) (ml : mg "len" = none) : FnOk P w S.K mg base CX0 2 f fd ["jar", "things"] (spA S 2 W_one) := by
  refine fn_ok F scOne fun cdv A outer s H E hr avs kk hl ⟨j, ds, m, hj, hm, hne, hz, h⟩ => ?_
  have hpos : 1 ≤ ds.length := by
    cases ds with
    | nil => exact absurd rfl hne
    | cons => simp
  rcases h with ⟨ha, hk⟩ | ⟨ha, hk⟩
  · subst ha
    refine Do.one (DoS.ret (AE.sub ix_list (AE.var 1 rfl (AE.call C hr rfl (AA.own 0 rfl (AA.cons (AE.bi call_len_seq ml PySem.boot_len (AA.cons (AE.var 1 rfl (AA.nil ⟨[.lst ds], _, rfl, (pc_len rfl).n, AA.nil ⟨OkA.one (i := 0) rfl rfl rfl, j, m, ds.length, hj, hm, by omega, by omega, rfl, fun j' v hj' h0 h1 => ⟨_, rfl, ?_⟩⟩⟩))))))))))
    obtain ⟨d, hd, hi⟩ := atI_int h0 h1
    exact ⟨d, p2_ixL hi, fin1 0 rfl rfl (hk j' d hj' hd)⟩
  · subst ha
    refine Do.one (DoS.ret (AE.ixO 1 rfl (AE.call C hr rfl (AA.own 0 rfl (AA.cons (AE.lenO 1 ml rfl (AA.nil ⟨OkA.one (i := 0) rfl rfl rfl, j, m, ds.length, hj, hm, by omega, by omega, rfl, fun j' v hj' h0 h1 => ⟨_, rfl, ?_⟩⟩)))))))
    obtain ⟨d, hd, hi⟩ := atI_int h0 h1
    exact ⟨_, _, _, d, rfl, rfl, hi, fin2 0 1 rfl rfl rfl (hk j' d hj' hd)⟩
def W_mixed : AW1 := fun avs k => ∃ (j ds : List DV) (m : Nat), Jar m j ∧ m + ds.length ≤ cap ∧ ds.length ≤ 50000 ∧ avs = [.own (some 0) (.lst j), .imm (.lst ds)] ∧ ∀ j' ds', Jar (m + ds.length) j' → ds'.Perm ds → k [.lst j'] (.imm (.lst ds'))
theorem ok_mixed {f : Addr} {fd : FuncData} (F : L2.Fun S.K "_law_mixed" "_law_mixed" sMixed f fd) (C : Can P w mg base S 1 "_law_take" ["jar", "many"] W_take) (ml : mg "len" = none) (mi : mg "list" = none) (mr : mg "range" = none) : FnOk P w S.K mg base CX0 2 f fd ["jar", "things"] (spA S 2 W_mixed) := by
  refine fn_ok F scMixed fun cdv A outer s H E hr avs kk hl ⟨j, ds, m, hj, hm, hz, ha, hk⟩ => ?_
  subst ha
  refine Do.cons (DoS.parF 2 3 scMixed.nd rfl (AF.bt call_list_of mi (by decide +kernel) (AA.cons (AE.var 1 rfl (AA.nil ⟨[.lst ds], _, rfl, pcf_list rfl, ds, rfl, AF.lst (AA.nil ⟨[], rfl, by decide, ?_⟩)⟩)))))
  refine Do.cons (DoS.forR rfl PassesOwn.never mr (AE.bi call_len_seq ml PySem.boot_len (AA.cons (AE.var 1 rfl (AA.nil ⟨[.lst ds], _, rfl, (pc_len rfl).n, ds.length, rfl, by omega, by omega, fun i δ => ∃ (j' sp fo : List DV) (o : Option Int), δ = [some (.own (some 0) (.lst j')), some (.imm (.lst ds)), some (.own none (.lst sp)), some (.own none (.lst fo)), o.map fun n => .imm (.int n)] ∧ Jar (m + i) j' ∧ (fo ++ sp).Perm ds ∧ fo.length = i, ⟨j, ds, [], none, rfl, hj, .refl _, rfl⟩, ?_, ?_⟩)))))
  · rintro i x δ2 hx ⟨j', sp, fo, o, rfl, hj', hp, hf⟩
    obtain ⟨hi, rfl⟩ := range_get (lo := 0) hx
    have hi : i < ds.length := by simpa using hi
    have hlen := hp.length_eq
    rw [List.length_append] at hlen
    refine ⟨[4], AG.name 4 scMixed.nd ?_⟩
    refine Do.one (DoS.expr (AE.append 3 rfl (AE.meth1 2 PySem.F.slot_list_pop PySem.F.type_list_pop mt_popAt rfl (AE.call C hr rfl (AA.own 0 rfl (AA.cons (AE.lenO 2 ml rfl (AA.nil ⟨OkA.one (i := 0) rfl rfl rfl, j', m + i, sp.length, hj', by omega, by omega, by omega, rfl, fun j2 v hj2 h0 h1 => ⟨_, rfl, ?_⟩⟩))))))))
    have hv : v.toNat < sp.length := by omega
    have hix : seqIndex? v sp.length = some v.toNat := (ixN_seq (i := v) (by unfold ixN; rw [if_pos h0, if_pos h1])).1
    refine ⟨none, sp, _, sp[v.toNat], rfl, mo_popAt (by omega) (by omega) hix (List.getElem?_eq_getElem hv), none, fo, rfl, by omega, ?_⟩
    refine ⟨j2, sp.eraseIdx v.toNat, fo ++ [sp[v.toNat]], some (0 + (i : Int)), rfl, hj2, ?_, by simp [hf]⟩
    refine List.Perm.trans ?_ hp
    rw [List.append_assoc]
    refine List.Perm.append_left fo ?_
    exact erase_perm hv
  · rintro δ2 ⟨j', sp, fo, o, rfl, hj', hp, hf⟩
    rw [rngD_len, Int.toNat_natCast] at hj' hf
    have hlen := hp.length_eq
    rw [List.length_append] at hlen
    have : sp = [] := List.eq_nil_of_length_eq_zero (by omega)
    subst this
    rw [List.append_nil] at hp
    exact Do.one (DoS.ret (AE.frz 3 rfl (fin1 0 rfl rfl (hk j' fo hj' hp))))
end
end K21
namespace K21
open PySem PySem.Spec PyProof.Rows L2 Evl AX
abbrev sWhole : Stmt := topS 24
abbrev sSame : Stmt := topS 25
theorem scWhole : FnScope ["thing"] ["thing"] (defScope sWhole) := ⟨rfl, rfl, rfl, by decide +kernel, rfl, by decide +kernel, by decide +kernel⟩
theorem scSame : FnScope ["heard_one", "owed", "at"] ["heard_one", "owed"] (defScope sSame) := ⟨rfl, rfl, rfl, by decide +kernel, rfl, by decide +kernel, by decide +kernel⟩
/-- data of at most n layers of lists and tuples -/
def Dat : Nat → DV → Prop
  | 0, d => d = .non ∨ (∃ b, d = .bl b) ∨ (∃ i, d = .int i) ∨ ∃ x, d = .str x
  | n + 1, d => Dat 0 d ∨ ∃ ds, (d = .lst ds ∨ d = .tup ds) ∧ ds.length ≤ 100000 ∧ ∀ x ∈ ds, Dat n x
section
variable {P : Program} {w : World} {S : Sig} {mg : Str → Option Value} {base : Heap}
theorem ok_whole {f : Addr} {fd : FuncData} (F : L2.Fun S.K "_law_yq_is_whole" "_law_yq_is_whole" sWhole f fd) (m1 : mg "isinstance" = none) (m2 : mg "int" = none) (m3 : mg "bool" = none) : FnOk P w S.K mg base CX0 1 f fd ["thing"] (spA S 1 W_isint) := by
  refine fn_ok F scWhole fun cdv A outer s H E hr avs kk hl ⟨i, ha, hk⟩ => ?_
  subst ha
  refine Do.one (DoS.ret (AE.and ?_))
  refine AE.bi call_isi m1 (by decide +kernel) (AA.cons (AE.var 0 rfl (AA.cons (AE.ty m2 (by decide +kernel) (AA.nil ⟨[.int i, .raw (.ty "int")], _, rfl, (pc_isi (T := "int") (b := true) rfl (kit_ty (by decide +kernel))).n, true, rfl, ?_⟩)))))
  rw [if_pos rfl]
  refine AE.one (AE.not (AE.bi call_isi m1 (by decide +kernel) (AA.cons (AE.var 0 rfl (AA.cons (AE.ty m3 (by decide +kernel) (AA.nil ⟨[.int i, .raw (.ty "bool")], _, rfl, (pc_isi (T := "int") (b := false) rfl (kit_ty (by decide +kernel))).n, false, rfl, fin0 rfl hk⟩)))))))
def W_same (n : Nat) : AW1 := fun avs k => ∃ d, Dat n d ∧ avs = [.imm d, .imm d] ∧ k [] (.imm (.bl true))
/-- the facts of the names that it uses -/
structure SameM (mg : Str → Option Value) : Prop where
  m1 : mg "isinstance" = none
  m2 : mg "int" = none
  m3 : mg "bool" = none
  m4 : mg "str" = none
  m5 : mg "tuple" = none
  m6 : mg "list" = none
  m7 : mg "len" = none
  m8 : mg "range" = none
theorem same_non {f : Addr} (M : SameM mg) (cdv : Value) (A : Around) (outer : List Env) (s : Shared) (H : Hp) (E : XK) (kk : List OV → AV → Prop) (hk : kk [] (.imm (.bl true)))  : Do S (cxOf CX0 P w S.K mg base ["heard_one", "owed", "at"] "_law_yq_same" (defScope sSame) f cdv A outer s H E).nox (defBody sSame) (startS 3 [.imm .non, .imm .non]) (AX.Fin [.imm .non, .imm .non] kk) := by
  obtain ⟨m1, m2, m3, m4, m5, m6, m7, m8⟩ := M
  refine Do.cons (DoS.ite (AT.cmp op_isN (AE.var 1 rfl (AE.non ⟨true, p2_isN, ?_⟩))))
  rw [if_pos rfl]
  exact Do.one (DoS.ret (AE.cmp op_isN (AE.var 0 rfl (AE.non ⟨_, p2_isN, fin0 rfl hk⟩))))

theorem same_bl {f : Addr} (M : SameM mg) (cdv : Value) (A : Around) (outer : List Env) (s : Shared) (H : Hp) (E : XK) (kk : List OV → AV → Prop) (hk : kk [] (.imm (.bl true))) (b : Bool) : Do S (cxOf CX0 P w S.K mg base ["heard_one", "owed", "at"] "_law_yq_same" (defScope sSame) f cdv A outer s H E).nox (defBody sSame) (startS 3 [.imm (.bl b), .imm (.bl b)]) (AX.Fin [.imm (.bl b), .imm (.bl b)] kk) := by
  obtain ⟨m1, m2, m3, m4, m5, m6, m7, m8⟩ := M
  refine Do.cons (DoS.ite (AT.cmp op_isN (AE.var 1 rfl (AE.non ⟨false, p2_isF rfl, ?_⟩))))
  rw [if_neg Bool.false_ne_true]
  refine Do.nil ?_
  refine Do.cons (DoS.ite (AT.val (AE.bi call_isi m1 (by decide +kernel) (AA.cons (AE.var 1 rfl (AA.cons (AE.ty m3 (by decide +kernel) (AA.nil ⟨[.bl b, .raw (.ty "bool")], _, rfl, (pc_isi (T := "bool") (b := true) rfl (kit_ty (by decide +kernel))).n, true, rfl, ?_⟩))))))))
  rw [if_pos rfl]
  refine Do.one (DoS.ret (AE.ite (AT.val (AE.var 1 rfl ⟨b, rfl, ?_⟩))))
  cases b with
  | true => rw [if_pos rfl]; exact AE.cmp op_isBl (AE.var 0 rfl (AE.bl ⟨_, p2_isB, fin0 rfl hk⟩))
  | false => rw [if_neg Bool.false_ne_true]; exact AE.cmp op_isBl (AE.var 0 rfl (AE.bl ⟨_, p2_isB, fin0 rfl hk⟩))

theorem same_int {f : Addr} (M : SameM mg) (cdv : Value) (A : Around) (outer : List Env) (s : Shared) (H : Hp) (E : XK) (kk : List OV → AV → Prop) (hk : kk [] (.imm (.bl true))) (C : Can P w mg base S 1 "_law_yq_is_whole" ["thing"] W_isint) {k : Nat} (hr : Room (k + 1) (A.deeper (envOfC "_law_yq_same" (defScope sSame) s.heap.objs.size f cdv))) (i : Int) : Do S (cxOf CX0 P w S.K mg base ["heard_one", "owed", "at"] "_law_yq_same" (defScope sSame) f cdv A outer s H E).nox (defBody sSame) (startS 3 [.imm (.int i), .imm (.int i)]) (AX.Fin [.imm (.int i), .imm (.int i)] kk) := by
  obtain ⟨m1, m2, m3, m4, m5, m6, m7, m8⟩ := M
  refine Do.cons (DoS.ite (AT.cmp op_isN (AE.var 1 rfl (AE.non ⟨false, p2_isF rfl, ?_⟩))))
  rw [if_neg Bool.false_ne_true]
  refine Do.nil ?_
  refine Do.cons (DoS.ite (AT.val (AE.bi call_isi m1 (by decide +kernel) (AA.cons (AE.var 1 rfl (AA.cons (AE.ty m3 (by decide +kernel) (AA.nil ⟨[.int i, .raw (.ty "bool")], _, rfl, (pc_isi (T := "int") (b := false) rfl (kit_ty (by decide +kernel))).n, false, rfl, ?_⟩))))))))
  rw [if_neg Bool.false_ne_true]
  refine Do.nil ?_
  refine Do.cons (DoS.ite (AT.val (AE.bi call_isi m1 (by decide +kernel) (AA.cons (AE.var 1 rfl (AA.cons (AE.ty m2 (by decide +kernel) (AA.nil ⟨[.int i, .raw (.ty "int")], _, rfl, (pc_isi (T := "int") (b := true) rfl (kit_ty (by decide +kernel))).n, true, rfl, ?_⟩))))))))
  rw [if_pos rfl]
  refine Do.one (DoS.ret (AE.and (AE.call C (hr.mono (by omega)) rfl (AA.cons (AE.var 0 rfl (AA.nil ⟨OkA.d rfl rfl, i, rfl, _, rfl, true, rfl, ?_⟩))))))
  rw [if_pos rfl]
  refine AE.one (AE.cmp op_eq (AE.var 0 rfl (AE.var 1 rfl ⟨_, p2_eqI, fin0 rfl ?_⟩)))
  rw [decide_eq_true rfl]; exact hk

theorem same_str {f : Addr} (M : SameM mg) (cdv : Value) (A : Around) (outer : List Env) (s : Shared) (H : Hp) (E : XK) (kk : List OV → AV → Prop) (hk : kk [] (.imm (.bl true))) (x : Str) : Do S (cxOf CX0 P w S.K mg base ["heard_one", "owed", "at"] "_law_yq_same" (defScope sSame) f cdv A outer s H E).nox (defBody sSame) (startS 3 [.imm (.str x), .imm (.str x)]) (AX.Fin [.imm (.str x), .imm (.str x)] kk) := by
  obtain ⟨m1, m2, m3, m4, m5, m6, m7, m8⟩ := M
  refine Do.cons (DoS.ite (AT.cmp op_isN (AE.var 1 rfl (AE.non ⟨false, p2_isF rfl, ?_⟩))))
  rw [if_neg Bool.false_ne_true]
  refine Do.nil ?_
  refine Do.cons (DoS.ite (AT.val (AE.bi call_isi m1 (by decide +kernel) (AA.cons (AE.var 1 rfl (AA.cons (AE.ty m3 (by decide +kernel) (AA.nil ⟨[.str x, .raw (.ty "bool")], _, rfl, (pc_isi (T := "str") (b := false) rfl (kit_ty (by decide +kernel))).n, false, rfl, ?_⟩))))))))
  rw [if_neg Bool.false_ne_true]
  refine Do.nil ?_
  refine Do.cons (DoS.ite (AT.val (AE.bi call_isi m1 (by decide +kernel) (AA.cons (AE.var 1 rfl (AA.cons (AE.ty m2 (by decide +kernel) (AA.nil ⟨[.str x, .raw (.ty "int")], _, rfl, (pc_isi (T := "str") (b := false) rfl (kit_ty (by decide +kernel))).n, false, rfl, ?_⟩))))))))
  rw [if_neg Bool.false_ne_true]
  refine Do.nil ?_
  refine Do.cons (DoS.ite (AT.val (AE.bi call_isi m1 (by decide +kernel) (AA.cons (AE.var 1 rfl (AA.cons (AE.ty m4 (by decide +kernel) (AA.nil ⟨[.str x, .raw (.ty "str")], _, rfl, (pc_isi (T := "str") (b := true) rfl (kit_ty (by decide +kernel))).n, true, rfl, ?_⟩))))))))
  rw [if_pos rfl]
  refine Do.one (DoS.ret (AE.and (AE.bi call_isi m1 (by decide +kernel) (AA.cons (AE.var 0 rfl (AA.cons (AE.ty m4 (by decide +kernel) (AA.nil ⟨[.str x, .raw (.ty "str")], _, rfl, (pc_isi (T := "str") (b := true) rfl (kit_ty (by decide +kernel))).n, true, rfl, ?_⟩))))))))
  rw [if_pos rfl]
  refine AE.one (AE.cmp op_eq (AE.var 0 rfl (AE.var 1 rfl ⟨_, p2_eqS, fin0 rfl ?_⟩)))
  rw [decide_eq_true rfl]; exact hk

theorem same_tup {f : Addr} (M : SameM mg) (cdv : Value) (A : Around) (outer : List Env) (s : Shared) (H : Hp) (E : XK) (kk : List OV → AV → Prop) (hk : kk [] (.imm (.bl true))) {n k : Nat} (C : Can P w mg base S (k + 1) "_law_yq_same" ["heard_one", "owed"] (W_same n)) (hr : Room (k + 1) (A.deeper (envOfC "_law_yq_same" (defScope sSame) s.heap.objs.size f cdv))) (ds : List DV) (hz : ds.length ≤ 100000) (hd : ∀ x ∈ ds, Dat n x) : Do S (cxOf CX0 P w S.K mg base ["heard_one", "owed", "at"] "_law_yq_same" (defScope sSame) f cdv A outer s H E).nox (defBody sSame) (startS 3 [.imm (.tup ds), .imm (.tup ds)]) (AX.Fin [.imm (.tup ds), .imm (.tup ds)] kk) := by
  obtain ⟨m1, m2, m3, m4, m5, m6, m7, m8⟩ := M
  refine Do.cons (DoS.ite (AT.cmp op_isN (AE.var 1 rfl (AE.non ⟨false, p2_isF rfl, ?_⟩))))
  rw [if_neg Bool.false_ne_true]
  refine Do.nil ?_
  refine Do.cons (DoS.ite (AT.val (AE.bi call_isi m1 (by decide +kernel) (AA.cons (AE.var 1 rfl (AA.cons (AE.ty m3 (by decide +kernel) (AA.nil ⟨[.tup ds, .raw (.ty "bool")], _, rfl, (pc_isi (T := "tuple") (b := false) rfl (kit_ty (by decide +kernel))).n, false, rfl, ?_⟩))))))))
  rw [if_neg Bool.false_ne_true]
  refine Do.nil ?_
  refine Do.cons (DoS.ite (AT.val (AE.bi call_isi m1 (by decide +kernel) (AA.cons (AE.var 1 rfl (AA.cons (AE.ty m2 (by decide +kernel) (AA.nil ⟨[.tup ds, .raw (.ty "int")], _, rfl, (pc_isi (T := "tuple") (b := false) rfl (kit_ty (by decide +kernel))).n, false, rfl, ?_⟩))))))))
  rw [if_neg Bool.false_ne_true]
  refine Do.nil ?_
  refine Do.cons (DoS.ite (AT.val (AE.bi call_isi m1 (by decide +kernel) (AA.cons (AE.var 1 rfl (AA.cons (AE.ty m4 (by decide +kernel) (AA.nil ⟨[.tup ds, .raw (.ty "str")], _, rfl, (pc_isi (T := "tuple") (b := false) rfl (kit_ty (by decide +kernel))).n, false, rfl, ?_⟩))))))))
  rw [if_neg Bool.false_ne_true]
  refine Do.nil ?_
  refine Do.cons (DoS.ite (AT.w (AW.and (AT.not (AT.val (AE.bi call_isi m1 (by decide +kernel) (AA.cons (AE.var 1 rfl (AA.cons (AE.ty m5 (by decide +kernel) (AA.nil ⟨[.tup ds, .raw (.ty "tuple")], _, rfl, (pc_isi (T := "tuple") (b := true) rfl (kit_ty (by decide +kernel))).n, true, rfl, ?_⟩)))))))))))
  rw [if_neg (by decide), if_neg (by decide)]
  refine Do.nil ?_
  refine Do.cons (DoS.ite (AT.cmp op_ne (AE.bi call_isi m1 (by decide +kernel) (AA.cons (AE.var 1 rfl (AA.cons (AE.ty m5 (by decide +kernel) (AA.nil ⟨[.tup ds, .raw (.ty "tuple")], _, rfl, (pc_isi (T := "tuple") (b := true) rfl (kit_ty (by decide +kernel))).n, AE.bi call_isi m1 (by decide +kernel) (AA.cons (AE.var 0 rfl (AA.cons (AE.ty m5 (by decide +kernel) (AA.nil ⟨[.tup ds, .raw (.ty "tuple")], _, rfl, (pc_isi (T := "tuple") (b := true) rfl (kit_ty (by decide +kernel))).n, _, p2_neB, ?_⟩)))))⟩))))))))
  rw [if_neg (by decide)]
  refine Do.nil ?_
  refine Do.cons (DoS.ite (AT.cmp op_ne (AE.bi call_isi m1 (by decide +kernel) (AA.cons (AE.var 1 rfl (AA.cons (AE.ty m6 (by decide +kernel) (AA.nil ⟨[.tup ds, .raw (.ty "list")], _, rfl, (pc_isi (T := "tuple") (b := false) rfl (kit_ty (by decide +kernel))).n, AE.bi call_isi m1 (by decide +kernel) (AA.cons (AE.var 0 rfl (AA.cons (AE.ty m6 (by decide +kernel) (AA.nil ⟨[.tup ds, .raw (.ty "list")], _, rfl, (pc_isi (T := "tuple") (b := false) rfl (kit_ty (by decide +kernel))).n, _, p2_neB, ?_⟩)))))⟩))))))))
  rw [if_neg (by decide)]
  refine Do.nil ?_
  refine Do.cons (DoS.ite (AT.cmp op_ne (AE.bi call_len_seq m7 PySem.boot_len (AA.cons (AE.var 0 rfl (AA.nil ⟨[.tup ds], _, rfl, (pc_len rfl).n, AE.bi call_len_seq m7 PySem.boot_len (AA.cons (AE.var 1 rfl (AA.nil ⟨[.tup ds], _, rfl, (pc_len rfl).n, _, p2_neI, ?_⟩)))⟩))))))
  rw [if_neg (by simp)]
  refine Do.nil ?_
  refine Do.cons (DoS.forR rfl PassesOwn.never m8 (AE.bi call_len_seq m7 PySem.boot_len (AA.cons (AE.var 1 rfl (AA.nil ⟨[.tup ds], _, rfl, (pc_len rfl).n, ds.length, rfl, by omega, by omega, fun i δ => ∃ o : Option Int, δ = [some (.imm (.tup ds)), some (.imm (.tup ds)), o.map fun n => .imm (.int n)], ⟨none, rfl⟩, ?_, ?_⟩)))))
  · rintro i x δ2 hx ⟨o, rfl⟩
    obtain ⟨hi, rfl⟩ := range_get (lo := 0) hx
    have hi : i < ds.length := by simpa using hi
    rw [Int.zero_add]
    have hix : atI ds ((i : Nat) : Int) = some ds[i] := atI_nat (List.getElem?_eq_getElem hi)
    refine ⟨[2], AG.name 2 scSame.nd ?_⟩
    refine Do.one (DoS.ite (AT.not (AT.val (AE.call C hr rfl (AA.cons (AE.sub ix_tup (AE.var 0 rfl (AE.var 2 rfl ⟨_, p2_ixT hix, AA.cons (AE.sub ix_tup (AE.var 1 rfl (AE.var 2 rfl ⟨_, p2_ixT hix, AA.nil ⟨OkA.d rfl rfl, ds[i], hd _ (List.getElem_mem hi), rfl, _, rfl, true, rfl, ?_⟩⟩)))⟩))))))))
    rw [if_neg (by decide)]
    exact Do.nil ⟨some (i : Int), rfl⟩
  · rintro δ2 ⟨o, rfl⟩
    exact Do.one (DoS.ret (AE.bl (fin0 rfl hk)))

theorem same_lst {f : Addr} (M : SameM mg) (cdv : Value) (A : Around) (outer : List Env) (s : Shared) (H : Hp) (E : XK) (kk : List OV → AV → Prop) (hk : kk [] (.imm (.bl true))) {n k : Nat} (C : Can P w mg base S (k + 1) "_law_yq_same" ["heard_one", "owed"] (W_same n)) (hr : Room (k + 1) (A.deeper (envOfC "_law_yq_same" (defScope sSame) s.heap.objs.size f cdv))) (ds : List DV) (hz : ds.length ≤ 100000) (hd : ∀ x ∈ ds, Dat n x) : Do S (cxOf CX0 P w S.K mg base ["heard_one", "owed", "at"] "_law_yq_same" (defScope sSame) f cdv A outer s H E).nox (defBody sSame) (startS 3 [.imm (.lst ds), .imm (.lst ds)]) (AX.Fin [.imm (.lst ds), .imm (.lst ds)] kk) := by
  obtain ⟨m1, m2, m3, m4, m5, m6, m7, m8⟩ := M
  refine Do.cons (DoS.ite (AT.cmp op_isN (AE.var 1 rfl (AE.non ⟨false, p2_isF rfl, ?_⟩))))
  rw [if_neg Bool.false_ne_true]
  refine Do.nil ?_
  refine Do.cons (DoS.ite (AT.val (AE.bi call_isi m1 (by decide +kernel) (AA.cons (AE.var 1 rfl (AA.cons (AE.ty m3 (by decide +kernel) (AA.nil ⟨[.lst ds, .raw (.ty "bool")], _, rfl, (pc_isi (T := "list") (b := false) rfl (kit_ty (by decide +kernel))).n, false, rfl, ?_⟩))))))))
  rw [if_neg Bool.false_ne_true]
  refine Do.nil ?_
  refine Do.cons (DoS.ite (AT.val (AE.bi call_isi m1 (by decide +kernel) (AA.cons (AE.var 1 rfl (AA.cons (AE.ty m2 (by decide +kernel) (AA.nil ⟨[.lst ds, .raw (.ty "int")], _, rfl, (pc_isi (T := "list") (b := false) rfl (kit_ty (by decide +kernel))).n, false, rfl, ?_⟩))))))))
  rw [if_neg Bool.false_ne_true]
  refine Do.nil ?_
  refine Do.cons (DoS.ite (AT.val (AE.bi call_isi m1 (by decide +kernel) (AA.cons (AE.var 1 rfl (AA.cons (AE.ty m4 (by decide +kernel) (AA.nil ⟨[.lst ds, .raw (.ty "str")], _, rfl, (pc_isi (T := "list") (b := false) rfl (kit_ty (by decide +kernel))).n, false, rfl, ?_⟩))))))))
  rw [if_neg Bool.false_ne_true]
  refine Do.nil ?_
  refine Do.cons (DoS.ite (AT.w (AW.and (AT.not (AT.val (AE.bi call_isi m1 (by decide +kernel) (AA.cons (AE.var 1 rfl (AA.cons (AE.ty m5 (by decide +kernel) (AA.nil ⟨[.lst ds, .raw (.ty "tuple")], _, rfl, (pc_isi (T := "list") (b := false) rfl (kit_ty (by decide +kernel))).n, false, rfl, ?_⟩)))))))))))
  rw [if_pos (by decide)]
  refine AW.and1 (AT.not (AT.val (AE.bi call_isi m1 (by decide +kernel) (AA.cons (AE.var 1 rfl (AA.cons (AE.ty m6 (by decide +kernel) (AA.nil ⟨[.lst ds, .raw (.ty "list")], _, rfl, (pc_isi (T := "list") (b := true) rfl (kit_ty (by decide +kernel))).n, true, rfl, ?_⟩))))))))
  rw [if_neg (by decide)]
  refine Do.nil ?_
  refine Do.cons (DoS.ite (AT.cmp op_ne (AE.bi call_isi m1 (by decide +kernel) (AA.cons (AE.var 1 rfl (AA.cons (AE.ty m5 (by decide +kernel) (AA.nil ⟨[.lst ds, .raw (.ty "tuple")], _, rfl, (pc_isi (T := "list") (b := false) rfl (kit_ty (by decide +kernel))).n, AE.bi call_isi m1 (by decide +kernel) (AA.cons (AE.var 0 rfl (AA.cons (AE.ty m5 (by decide +kernel) (AA.nil ⟨[.lst ds, .raw (.ty "tuple")], _, rfl, (pc_isi (T := "list") (b := false) rfl (kit_ty (by decide +kernel))).n, _, p2_neB, ?_⟩)))))⟩))))))))
  rw [if_neg (by decide)]
  refine Do.nil ?_
  refine Do.cons (DoS.ite (AT.cmp op_ne (AE.bi call_isi m1 (by decide +kernel) (AA.cons (AE.var 1 rfl (AA.cons (AE.ty m6 (by decide +kernel) (AA.nil ⟨[.lst ds, .raw (.ty "list")], _, rfl, (pc_isi (T := "list") (b := true) rfl (kit_ty (by decide +kernel))).n, AE.bi call_isi m1 (by decide +kernel) (AA.cons (AE.var 0 rfl (AA.cons (AE.ty m6 (by decide +kernel) (AA.nil ⟨[.lst ds, .raw (.ty "list")], _, rfl, (pc_isi (T := "list") (b := true) rfl (kit_ty (by decide +kernel))).n, _, p2_neB, ?_⟩)))))⟩))))))))
  rw [if_neg (by decide)]
  refine Do.nil ?_
  refine Do.cons (DoS.ite (AT.cmp op_ne (AE.bi call_len_seq m7 PySem.boot_len (AA.cons (AE.var 0 rfl (AA.nil ⟨[.lst ds], _, rfl, (pc_len rfl).n, AE.bi call_len_seq m7 PySem.boot_len (AA.cons (AE.var 1 rfl (AA.nil ⟨[.lst ds], _, rfl, (pc_len rfl).n, _, p2_neI, ?_⟩)))⟩))))))
  rw [if_neg (by simp)]
  refine Do.nil ?_
  refine Do.cons (DoS.forR rfl PassesOwn.never m8 (AE.bi call_len_seq m7 PySem.boot_len (AA.cons (AE.var 1 rfl (AA.nil ⟨[.lst ds], _, rfl, (pc_len rfl).n, ds.length, rfl, by omega, by omega, fun i δ => ∃ o : Option Int, δ = [some (.imm (.lst ds)), some (.imm (.lst ds)), o.map fun n => .imm (.int n)], ⟨none, rfl⟩, ?_, ?_⟩)))))
  · rintro i x δ2 hx ⟨o, rfl⟩
    obtain ⟨hi, rfl⟩ := range_get (lo := 0) hx
    have hi : i < ds.length := by simpa using hi
    rw [Int.zero_add]
    have hix : atI ds ((i : Nat) : Int) = some ds[i] := atI_nat (List.getElem?_eq_getElem hi)
    refine ⟨[2], AG.name 2 scSame.nd ?_⟩
    refine Do.one (DoS.ite (AT.not (AT.val (AE.call C hr rfl (AA.cons (AE.sub ix_list (AE.var 0 rfl (AE.var 2 rfl ⟨_, p2_ixL hix, AA.cons (AE.sub ix_list (AE.var 1 rfl (AE.var 2 rfl ⟨_, p2_ixL hix, AA.nil ⟨OkA.d rfl rfl, ds[i], hd _ (List.getElem_mem hi), rfl, _, rfl, true, rfl, ?_⟩⟩)))⟩))))))))
    rw [if_neg (by decide)]
    exact Do.nil ⟨some (i : Int), rfl⟩
  · rintro δ2 ⟨o, rfl⟩
    exact Do.one (DoS.ret (AE.bl (fin0 rfl hk)))

theorem dat_cases {n : Nat} {d : DV} (h : Dat n d) : Dat 0 d ∨ ∃ m ds, n = m + 1 ∧ (d = .lst ds ∨ d = .tup ds) ∧ ds.length ≤ 100000 ∧ ∀ x ∈ ds, Dat m x := by
  cases n with
  | zero => exact .inl h
  | succ n =>
    unfold Dat at h
    rcases h with h | ⟨ds, h1, h2, h3⟩
    · exact .inl h
    · exact .inr ⟨n, ds, rfl, h1, h2, h3⟩
/-- equal data are the same -/
theorem ok_same {f : Addr} {fd : FuncData} (F : L2.Fun S.K "_law_yq_same" "_law_yq_same" sSame f fd) (hm : mg "_law_yq_same" = some (.ref f)) (hb : L2.Binds S.K fd ["heard_one", "owed"] []) (C : Can P w mg base S 1 "_law_yq_is_whole" ["thing"] W_isint) (M : SameM mg) : ∀ n : Nat, FnOk P w S.K mg base CX0 (n + 2) f fd ["heard_one", "owed"] (spA S 2 (W_same n))
  | 0 => by
    refine fn_ok F scSame fun cdv A outer s H E hr avs kk hl ⟨d, hd, ha, hk⟩ => ?_
    subst ha
    unfold Dat at hd
    rcases hd with rfl | ⟨b, rfl⟩ | ⟨i, rfl⟩ | ⟨x, rfl⟩
    · exact same_non M cdv A outer s H E kk hk
    · exact same_bl M cdv A outer s H E kk hk b
    · exact same_int M cdv A outer s H E kk hk C hr i
    · exact same_str M cdv A outer s H E kk hk x
  | n + 1 => by
    have ih := ok_same F hm hb C M n
    have Cn : Can P w mg base S (n + 2) "_law_yq_same" ["heard_one", "owed"] (W_same n) := ⟨f, fd, ih, hm, F.kp, hb⟩
    refine fn_ok F scSame fun cdv A outer s H E hr avs kk hl ⟨d, hd, ha, hk⟩ => ?_
    subst ha
    unfold Dat at hd
    rcases hd with hd | ⟨ds, hd, hz, hx⟩
    · unfold Dat at hd
      rcases hd with rfl | ⟨b, rfl⟩ | ⟨i, rfl⟩ | ⟨x, rfl⟩
      · exact same_non M cdv A outer s H E kk hk
      · exact same_bl M cdv A outer s H E kk hk b
      · exact same_int M cdv A outer s H E kk hk C hr i
      · exact same_str M cdv A outer s H E kk hk x
    · rcases hd with rfl | rfl
      · exact same_lst M cdv A outer s H E kk hk Cn hr ds hz hx
      · exact same_tup M cdv A outer s H E kk hk Cn hr ds hz hx
end
end K21
namespace K21
open PySem PySem.Spec PyProof.Rows L2 Evl AX
abbrev sNumber : Stmt := topS 33
abbrev sRows : Stmt := topS 34
theorem scNumber : FnScope ["jar"] ["jar"] (defScope sNumber) := ⟨rfl, rfl, rfl, by decide +kernel, rfl, by decide +kernel, by decide +kernel⟩
theorem scRows : FnScope ["jar", "wide", "made", "go", "row", "one", "two", "a", "b", "at"] ["jar", "wide"] (defScope sRows) := ⟨rfl, rfl, rfl, by decide +kernel, rfl, by decide +kernel, by decide +kernel⟩
theorem cp10 (n : Int) (a : 0 ≤ n := by decide) (b : n ≤ 1000000 := by decide) : CPow 10 n := ⟨a, b, by decide⟩
section
variable {P : Program} {w : World} {S : Sig} {mg : Str → Option Value} {base : Heap}
def W_number : AW1 := fun avs k => ∃ (j : List DV) (m : Nat), Jar m j ∧ m + 3 ≤ cap ∧ avs = [.own (some 0) (.lst j)] ∧ ∀ j' (v : Int), Jar (m + 3) j' → v.natAbs ≤ 15 → k [.lst j'] (.imm (.int v))
theorem ok_number {f : Addr} {fd : FuncData} (F : L2.Fun S.K "_law_rw_number" "_law_rw_number" sNumber f fd) (C1 : Can P w mg base S 2 "_law_one" ["jar", "things"] W_one) (C2 : Can P w mg base S 1 "_law_take" ["jar", "many"] W_take) : FnOk P w S.K mg base CX0 3 f fd ["jar"] (spA S 1 W_number) := by
  refine fn_ok F scNumber fun cdv A outer s H E hr avs kk hl ⟨j, m, hj, hm, ha, hk⟩ => ?_
  subst ha
  refine Do.one (DoS.ret (AE.call C1 hr rfl (AA.own 0 rfl (AA.cons (AE.lst ?_)))))
  refine AA.cons (AE.int ?_)
  refine AA.cons (AE.int ?_)
  refine AA.cons (AE.int ?_)
  refine AA.cons (AE.int ?_)
  refine AA.cons (AE.int ?_)
  refine AA.cons (AE.un un_neg (AE.int ⟨_, p1_neg, ?_⟩))
  refine AA.cons (AE.int ?_)
  refine AA.cons (AE.un un_neg (AE.int ⟨_, p1_neg, ?_⟩))
  refine AA.cons (AE.int ?_)
  refine AA.cons (AE.bin op_sub (AE.call C2 (hr.mono (by decide)) rfl (AA.own 0 rfl (AA.cons (AE.int (AA.nil ⟨OkA.one (i := 0) rfl rfl rfl, j, m, 30, hj, by omega, by decide, by decide, rfl, fun j1 v1 hj1 a1 b1 => ⟨_, rfl, ?_⟩⟩))))))
  refine AE.int ⟨_, p2_iii, ?_⟩
  have b1 : v1 < 30 := b1
  refine AA.nil ⟨[.int 0, .int 0, .int 0, .int 1, .int 1, .int (-1), .int 2, .int (-3), .int 6, .int (v1 - 15)], rfl, by simp, ?_⟩
  refine AA.nil ⟨OkA.one (i := 0) rfl rfl rfl, j1, _, m + 1, hj1, by omega, by simp, by simp, .inl ⟨rfl, fun j3 d hj3 hd => ⟨d, rfl, ?_⟩⟩⟩
  obtain ⟨v, rfl, hv⟩ : ∃ v : Int, d = .int v ∧ v.natAbs ≤ 15 := by
    simp only [List.mem_cons, List.not_mem_nil, or_false] at hd
    rcases hd with h | h | h | h | h | h | h | h | h | h <;> exact ⟨_, h, by omega⟩
  exact fin1 0 rfl rfl (hk j3 v (hj3.mono (by omega)) hv)
end
end K21
namespace K21
open PySem PySem.Spec PyProof.Rows L2 Evl AX
theorem plain_rows : ∀ rows : List RX.Row, DV.plainL (rows.map dR) = true
  | [] => rfl
  | r :: rows => by
    show (DV.plainL (r.map DV.int) && DV.plainL (rows.map dR)) = true
    rw [plain_ints, plain_rows rows]; rfl
theorem py_rows : ∀ rows : List RX.Row, DV.pyL (rows.map dR) = rows.map fun r => PyData.tuple (r.map PyData.int)
  | [] => rfl
  | r :: rows => by
    show PyData.tuple (DV.pyL (r.map DV.int)) :: DV.pyL (rows.map dR) = _
    rw [py_ints, py_rows rows, List.map_cons]
theorem lay_ints : ∀ ns : List Int, PyData.canLayAll0 (ns.map PyData.int) = true ∧ PyData.depthAll (ns.map PyData.int) ≤ 1
  | [] => by simp [PyData.canLayAll0, PyData.depthAll]
  | n :: ns => by
    have := lay_ints ns
    simp [PyData.canLayAll0, PyData.depthAll, PyData.canLay0, PyData.depth, this.1]; omega
theorem lay_rows : ∀ rows : List RX.Row, PyData.canLayAll0 (rows.map fun r => PyData.tuple (r.map PyData.int)) = true ∧ PyData.depthAll (rows.map fun r => PyData.tuple (r.map PyData.int)) ≤ 2
  | [] => by simp [PyData.canLayAll0, PyData.depthAll]
  | r :: rows => by
    have h1 := lay_rows rows
    have h2 := lay_ints r
    simp [PyData.canLayAll0, PyData.depthAll, PyData.canLay0, PyData.depth, h1.1, h2.1]
    have := h2.2; have := h1.2
    omega
theorem shapedR (rows : List RX.Row) : SeqAt.shaped (dRs rows).py = true := by
  show SeqAt.shaped (.list (DV.pyL (rows.map dR))) = true
  rw [py_rows]
  have h := lay_rows rows
  simp [SeqAt.shaped, PyData.canLay0, PyData.depth, h.1]
  have := h.2
  omega
theorem eqv_nil (xs : List PyData) : PyData.eqv (.list xs) (.list []) = xs.isEmpty := by
  cases xs with
  | nil => simp [PyData.eqv, PyData.eqvAll]
  | cons x xs => simp [PyData.eqv, PyData.eqvAll]
theorem py_empty (ds : List DV) : (DV.pyL ds).isEmpty = ds.isEmpty := by
  cases ds <;> rfl
/-- no number of 60 figures or more -/
def isLet (rows : List RX.Row) : Bool := rows.all fun r => r.all fun x => decide (x.natAbs < 10 ^ 60)
def bigD : DV → Option DV
  | .int n => if n.natAbs < 10 ^ 60 then none else some (.int n)
  | _ => none
def bigR : DV → Option DV
  | .tup ds => if (ds.filterMap bigD).isEmpty = true then none else some (.tup ds)
  | _ => none
theorem big_row (r : RX.Row) : ((r.map DV.int).filterMap bigD).isEmpty = r.all fun x => decide (x.natAbs < 10 ^ 60) := by
  induction r with
  | nil => rfl
  | cons x r ih =>
    rw [List.map_cons, List.filterMap_cons, List.all_cons]
    by_cases h : x.natAbs < 10 ^ 60
    · rw [show bigD (.int x) = none from if_pos h, decide_eq_true h, Bool.true_and]; exact ih
    · rw [show bigD (.int x) = some (.int x) from if_neg h, decide_eq_false h]; rfl
theorem big_rows (rows : List RX.Row) : ((rows.map dR).filterMap bigR).isEmpty = isLet rows := by
  unfold isLet
  induction rows with
  | nil => rfl
  | cons r rows ih =>
    rw [List.map_cons, List.filterMap_cons, List.all_cons, ← big_row]
    by_cases h : ((r.map DV.int).filterMap bigD).isEmpty = true
    · rw [show bigR (dR r) = none from if_pos h, h, Bool.true_and]; exact ih
    · rw [show bigR (dR r) = some (dR r) from if_neg h, Bool.eq_false_iff.mpr h]; rfl
theorem big_sub (rows : List RX.Row) : ∃ rs : List RX.Row, (rows.map dR).filterMap bigR = rs.map dR := by
  induction rows with
  | nil => exact ⟨[], rfl⟩
  | cons r rows ih =>
    obtain ⟨rs, ih⟩ := ih
    rw [List.map_cons, List.filterMap_cons]
    by_cases h : ((r.map DV.int).filterMap bigD).isEmpty = true
    · rw [show bigR (dR r) = none from if_pos h]; exact ⟨rs, ih⟩
    · rw [show bigR (dR r) = some (dR r) from if_neg h]; exact ⟨r :: rs, congrArg _ ih⟩
theorem big_ints (r : RX.Row) : ∃ ns : List Int, (r.map DV.int).filterMap bigD = ns.map DV.int ∧ ns.length ≤ r.length := by
  induction r with
  | nil => exact ⟨[], rfl, Nat.le_refl _⟩
  | cons x r ih =>
    obtain ⟨ns, ih, hl⟩ := ih
    rw [List.map_cons, List.filterMap_cons]
    by_cases h : x.natAbs < 10 ^ 60
    · rw [show bigD (.int x) = none from if_pos h]; exact ⟨ns, ih, by simp; omega⟩
    · rw [show bigD (.int x) = some (.int x) from if_neg h]; exact ⟨x :: ns, congrArg _ ih, by simp; omega⟩
end K21
namespace K21
open PySem PySem.Spec PyProof.Rows L2 Evl AX
abbrev stR (j made : List DV) (wd : Nat) (g rw on tw aa bb : Option DV) : Sto := [some (.own (some 0) (.lst j)), some (.imm (.int wd)), some (.own none (.lst made)), g.map .imm, rw.map .imm, on.map .imm, tw.map .imm, aa.map .imm, bb.map .imm, none]
/-- rows of a width, their numbers bounded -/
def RowsB (n : Nat) (B : Nat) (rows : List RX.Row) : Prop := ∀ r ∈ rows, r.length = n ∧ ∀ x ∈ r, x.natAbs ≤ B
section
variable {P : Program} {w : World} {S : Sig} {mg : Str → Option Value} {base : Heap}
def W_rows : AW1 := fun avs k => ∃ (j : List DV) (m n : Nat), Jar m j ∧ m + 200 ≤ cap ∧ 1 ≤ n ∧ n ≤ 8 ∧ avs = [.own (some 0) (.lst j), .imm (.int n)] ∧ ∀ j' (rows : List RX.Row), Jar (m + 200) j' → rows.length ≤ 6 → RowsB n (15000000) rows → k [.lst j'] (.imm (dRs rows))
theorem ok_rows {f : Addr} {fd : FuncData} (F : L2.Fun S.K "_law_rw_rows" "_law_rw_rows" sRows f fd) (C1 : Can P w mg base S 1 "_law_take" ["jar", "many"] W_take) (C2 : Can P w mg base S 2 "_law_one" ["jar", "things"] W_one) (C3 : Can P w mg base S 3 "_law_rw_number" ["jar"] W_number) (mr : mg "range" = none) (mt : mg "tuple" = none) : FnOk P w S.K mg base CX0 4 f fd ["jar", "wide"] (spA S 2 W_rows) := by
  refine fn_ok F scRows fun cdv A outer s H E hr avs kk hl ⟨j, m, n, hj, hm, hn1, hn8, ha, hk⟩ => ?_
  subst ha
  refine Do.cons (DoS.setF 2 scRows.nd (AF.lst (AA.nil ⟨[], rfl, by decide, ?_⟩)))
  refine Do.cons (DoS.forR rfl PassesOwn.never mr (AE.call C1 (hr.mono (by decide)) rfl (AA.own 0 rfl (AA.cons (AE.int (AA.nil ⟨OkA.one (i := 0) rfl rfl rfl, j, m, 7, hj, by omega, by decide, by decide, rfl, fun j1 v hj1 v0 v1 => ⟨_, rfl, v, rfl, by omega, by omega, fun i δ => ∃ (j' : List DV) (rows : List RX.Row) (g rw on tw aa bb : Option DV), δ = stR j' (rows.map dR) n g rw on tw aa bb ∧ rows.length = i ∧ Jar (m + 1 + 29 * i) j' ∧ RowsB n (15 * 10 ^ i) rows, ⟨j1, [], none, none, none, none, none, none, rfl, rfl, hj1, fun r hr => by simp at hr⟩, ?_, ?_⟩⟩))))))
  · rintro i x δ2 hx ⟨j', rows, g, rw0, on, tw, aa, bb, rfl, hri, hj', hB⟩
    obtain ⟨hi, rfl⟩ := range_get (lo := 0) hx
    have hi6 : i < 6 := by have : v < 7 := v1; have : i < v.toNat := hi; omega
    refine ⟨[3], AG.name 3 scRows.nd ?_⟩
    refine Do.cons (DoS.set 4 scRows.nd (AE.bt call_tuple_of mt (by decide +kernel) (AA.cons (AF.imm (AF.lcR [("at", 9)] rfl scRows.nd mr (blkOk_by (N := ["jar", "wide", "made", "go", "row", "one", "two", "a", "b", "at"]) (sc := defScope sRows) (by decide +kernel)) (AE.var 1 rfl ⟨n, rfl, by omega, by omega, by rw [rngD_len]; simp; omega, noOwn rfl, fun q δ2 acc => ∃ (j2 : List DV) (r : RX.Row), δ2 = stR j2 (rows.map dR) n (some (.int (0 + (i : Int)))) rw0 on tw aa bb ∧ acc = r.map DV.int ∧ r.length = q ∧ Jar (m + 1 + 29 * i + 3 * q) j2 ∧ ∀ x ∈ r, x.natAbs ≤ 15, ⟨j', [], rfl, rfl, rfl, hj', fun x hx => by simp at hx⟩, ?_, ?_⟩))))))
    · rintro q x δ2 acc hx ⟨j2, r, rfl, rfl, hq, hj2, hb2⟩
      obtain ⟨hq8, rfl⟩ := range_get (lo := 0) hx
      have hq8 : q < n := by simpa using hq8
      refine ⟨[9], by decide, fun s0 H0 C0 cl fp => AG.name 9 scRows.nd fun s0 H0 C0 cl fp => ATs.nil ?_⟩
      rw [if_pos rfl]
      refine fun s0 H0 C0 cl fp => AE.call C3 hr rfl (AA.own 0 rfl (AA.nil ⟨OkA.one (i := 0) rfl rfl rfl, j2, m + 1 + 29 * i + 3 * q, hj2, by unfold cap at *; omega, rfl, fun j3 u hj3 hu => ⟨_, rfl, j3, r ++ [u], rfl, by simp, by simp [hq], hj3.mono (by omega), fun x hx => ?_⟩⟩))
      rcases List.mem_append.mp hx with h | h
      · exact hb2 x h
      · rw [List.mem_singleton.mp h]; exact hu
    · rintro δ2 acc ⟨j2, r, rfl, rfl, hq, hj2, hb2⟩
      rw [rngD_len, Int.toNat_natCast] at hq hj2
      refine ⟨_, rfl, AA.nil ⟨[.lst _], _, rfl, pcn_tuple (.inl rfl), ?_⟩⟩
      show Do S _ _ (stR j2 (rows.map dR) n (some (.int (0 + (i : Int)))) (some (dR r)) on tw aa bb) _
      have hpow : 15 ≤ 15 * 10 ^ i := Nat.le_mul_of_pos_right _ (Nat.pow_pos (by decide))
      refine Do.cons (DoS.imp (D := AEnds.mk (fun δ => ∃ (j' : List DV) (r : RX.Row) (on tw aa bb : Option DV), δ = stR j' (rows.map dR) n (some (.int (0 + (i : Int)))) (some (dR r)) on tw aa bb ∧ Jar (m + 1 + 29 * (i + 1)) j' ∧ r.length = n ∧ ∀ x ∈ r, x.natAbs ≤ 15 * 10 ^ (i + 1)) _ _ _) ?_ ?_ (fun _ _ h => h) (fun _ h => h) fun _ h => h)
      · refine DoS.ite (AT.w (AW.and (AT.cmpO 2 (op_neD hr.units) rfl (AE.lst (AA.nil ⟨[], rfl, by decide, _, _, _, rfl, p2o_ne (plain_rows rows) rfl (shapedR rows) (by decide), ?_⟩)))))
        have ee : (!PyData.eqv (dRs rows).py (DV.lst []).py) = !rows.isEmpty := by
          show (!PyData.eqv (.list (DV.pyL _)) (.list [])) = _
          rw [eqv_nil, py_empty]
          cases rows <;> rfl
        rw [ee]
        by_cases hne : rows = []
        · rw [if_neg (by rw [hne]; decide), if_neg Bool.false_ne_true]
          exact Do.nil ⟨j2, r, on, tw, aa, bb, rfl, hj2.mono (by omega), hq, fun x hx => Nat.le_trans (hb2 x hx) (Nat.le_mul_of_pos_right _ (Nat.pow_pos (by decide)))⟩
        · rw [if_pos (by cases rows with | nil => exact absurd rfl hne | cons => rfl)]
          refine AW.and1 (AT.cmp op_eq (AE.call C1 (hr.mono (by decide)) rfl (AA.own 0 rfl (AA.cons (AE.int (AA.nil ⟨OkA.one (i := 0) rfl rfl rfl, j2, m + 1 + 29 * i + 3 * n, 3, hj2, by unfold cap at *; omega, by decide, by decide, rfl, fun j3 u hj3 u0 u1 => ⟨_, rfl, ?_⟩⟩))))))
          refine AE.int ⟨_, p2_eqI, ?_⟩
          by_cases hu : u = 0
          · rw [if_pos (by simp [hu])]
            have hmn : rows.map dR ≠ [] := by simpa using hne
            have hml : (rows.map dR).length ≤ 100000 := by simp; omega
            refine Do.cons (DoS.asg (js := [5, 6]) (AE.tup (AA.cons (AE.call C2 (hr.mono (by decide)) rfl (AA.own 0 rfl (AA.own 2 rfl (AA.nil ⟨OkA.two (i := 0) (j := 2) rfl rfl (by decide) rfl rfl, j3, rows.map dR, _, hj3, by unfold cap at *; omega, hmn, hml, .inr ⟨rfl, fun j4 d1 hj4 hd1 => ⟨d1, rfl, ?_⟩⟩⟩)))))))
            obtain ⟨r1, hr1, rfl⟩ := List.mem_map.mp hd1
            refine AA.cons (AE.call C2 (hr.mono (by decide)) rfl (AA.own 0 rfl (AA.own 2 rfl (AA.nil ⟨OkA.two (i := 0) (j := 2) rfl rfl (by decide) rfl rfl, j4, rows.map dR, _, hj4, by unfold cap at *; omega, hmn, hml, .inr ⟨rfl, fun j5 d2 hj5 hd2 => ⟨d2, rfl, ?_⟩⟩⟩))))
            obtain ⟨r2, hr2, rfl⟩ := List.mem_map.mp hd2
            refine AA.nil ⟨[dR r1, dR r2], rfl, by simp, AG.tup rfl rfl (AGs.cons 5 scRows.nd (AGs.cons 6 scRows.nd (AGs.nil ?_)))⟩
            show Do S _ _ (stR j5 (rows.map dR) n (some (.int (0 + (i : Int)))) (some (dR r)) (some (dR r1)) (some (dR r2)) aa bb) _
            refine Do.cons (DoS.asg (js := [7, 8]) (AE.tup (AA.cons (AE.call C2 (hr.mono (by decide)) rfl (AA.own 0 rfl (AA.cons (AE.lst ?_)))))))
            refine AA.cons (AE.int ?_)
            refine AA.cons (AE.un un_neg (AE.int ⟨_, p1_neg, ?_⟩))
            refine AA.cons (AE.int ?_)
            refine AA.cons (AE.int ?_)
            refine AA.cons (AE.int ?_)
            refine AA.nil ⟨[.int 1, .int (-1), .int 2, .int 6, .int 0], rfl, by decide, ?_⟩
            refine AA.nil ⟨OkA.one (i := 0) rfl rfl rfl, j5, _, _, hj5, by unfold cap at *; omega, by simp, by decide, .inl ⟨rfl, fun j6 da hj6 hda => ⟨da, rfl, ?_⟩⟩⟩
            obtain ⟨av, rfl, hav⟩ : ∃ av : Int, da = .int av ∧ av.natAbs ≤ 6 := by
              simp only [List.mem_cons, List.not_mem_nil, or_false] at hda
              rcases hda with h | h | h | h | h <;> exact ⟨_, h, by decide⟩
            refine AA.cons (AE.call C2 (hr.mono (by decide)) rfl (AA.own 0 rfl (AA.cons (AE.lst ?_))))
            refine AA.cons (AE.int ?_)
            refine AA.cons (AE.int ?_)
            refine AA.cons (AE.un un_neg (AE.int ⟨_, p1_neg, ?_⟩))
            refine AA.cons (AE.int ?_)
            refine AA.nil ⟨[.int 0, .int 1, .int (-4), .int 3], rfl, by decide, ?_⟩
            refine AA.nil ⟨OkA.one (i := 0) rfl rfl rfl, j6, _, _, hj6, by unfold cap at *; omega, by simp, by decide, .inl ⟨rfl, fun j7 db hj7 hdb => ⟨db, rfl, ?_⟩⟩⟩
            obtain ⟨bv, rfl, hbv⟩ : ∃ bv : Int, db = .int bv ∧ bv.natAbs ≤ 4 := by
              simp only [List.mem_cons, List.not_mem_nil, or_false] at hdb
              rcases hdb with h | h | h | h <;> exact ⟨_, h, by decide⟩
            refine AA.nil ⟨[.int av, .int bv], rfl, by simp, AG.tup rfl rfl (AGs.cons 7 scRows.nd (AGs.cons 8 scRows.nd (AGs.nil ?_)))⟩
            show Do S _ _ (stR j7 (rows.map dR) n (some (.int (0 + (i : Int)))) (some (dR r)) (some (dR r1)) (some (dR r2)) (some (.int av)) (some (.int bv))) _
            obtain ⟨l1, b1⟩ := hB r1 hr1
            obtain ⟨l2, b2⟩ := hB r2 hr2
            have enr : (List.zipWith (fun x y => av * x + bv * y) r1 r2).length = n := by rw [List.length_zipWith, l1, l2]; simp
            have hbig : 15 * 10 ^ i < 2 ^ 300 := Nat.lt_of_le_of_lt (Nat.mul_le_mul_left _ (Nat.pow_le_pow_right (by decide) (show i ≤ 6 by omega))) (by decide +kernel)
            refine Do.one (DoS.set 4 scRows.nd (AE.bt call_tuple_of mt (by decide +kernel) (AA.cons (AF.imm (AF.lcR [("at", 9)] rfl scRows.nd mr (blkOk_by (N := ["jar", "wide", "made", "go", "row", "one", "two", "a", "b", "at"]) (sc := defScope sRows) (by decide +kernel)) (AE.var 1 rfl ⟨n, rfl, by omega, by omega, Comp.to [9] ((List.zipWith (fun x y => av * x + bv * y) r1 r2).map DV.int) (by decide) (by rw [rngD_len, List.length_map, enr]; simp) (by rw [rngD_len]; simp; omega) (noOwn rfl) ?_ ?_⟩))))))
            · intro q x y hx hy s0 H0 C0 cl fp
              obtain ⟨hq8, rfl⟩ := range_get (lo := 0) hx
              have hq8 : q < n := by simpa using hq8
              rw [Int.zero_add]
              obtain ⟨t, ht, rfl⟩ := map_get hy
              have et : t = av * RX.at_ r1 q + bv * RX.at_ r2 q := by
                rw [List.getElem?_zipWith, List.getElem?_eq_getElem (by omega), List.getElem?_eq_getElem (by omega)] at ht
                rw [RX.at_eq_get (by omega), RX.at_eq_get (by omega)]
                exact (Option.some.inj ht).symm
              refine AG.name 9 scRows.nd fun s0 H0 C0 cl fp => ATs.nil ⟨rfl, fun s0 H0 C0 cl fp => ?_⟩
              refine AE.bin op_add (AE.bin op_mulW (AE.var 7 rfl (AE.sub ix_tup (AE.var 5 rfl (AE.var 9 rfl ⟨_, p2_ixT (ix_row (by omega)), _, p2_ciii ?_, ?_⟩)))))
              · exact wide_mul (a := 3) (b := 300) (by omega) (Nat.lt_of_le_of_lt (b1 _ (RX.mem_at (by omega))) hbig) (by decide) (by decide) (by decide)
              · refine AE.bin op_mulW (AE.var 8 rfl (AE.sub ix_tup (AE.var 6 rfl (AE.var 9 rfl ⟨_, p2_ixT (ix_row (by omega)), _, p2_ciii ?_, _, p2_iii, rfl, by rw [et]⟩))))
                exact wide_mul (a := 3) (b := 300) (by omega) (Nat.lt_of_le_of_lt (b2 _ (RX.mem_at (by omega))) hbig) (by decide) (by decide) (by decide)
            · refine ⟨_, rfl, AA.nil ⟨[.lst _], _, rfl, pcn_tuple (.inl rfl), j7, List.zipWith (fun x y => av * x + bv * y) r1 r2, _, _, _, _, rfl, hj7.mono (by omega), enr, fun x hx => ?_⟩⟩
              obtain ⟨q, hq', e⟩ := List.getElem_of_mem hx
              rw [List.getElem_zipWith] at e
              rw [enr] at hq'
              have c1 := b1 _ (List.getElem_mem (by omega : q < r1.length))
              have c2 := b2 _ (List.getElem_mem (by omega : q < r2.length))
              rw [← e]
              have d1 : (av * r1[q]).natAbs ≤ 6 * (15 * 10 ^ i) := by rw [Int.natAbs_mul]; exact Nat.mul_le_mul hav c1
              have d2 : (bv * r2[q]).natAbs ≤ 4 * (15 * 10 ^ i) := by rw [Int.natAbs_mul]; exact Nat.mul_le_mul hbv c2
              have d3 := Int.natAbs_add_le (av * r1[q]) (bv * r2[q])
              have e10 : 15 * 10 ^ (i + 1) = 10 * (15 * 10 ^ i) := by rw [Nat.pow_succ 10 i]; generalize 15 = u1; generalize 10 ^ i = u2; rw [Nat.mul_comm 10 (u1 * u2), Nat.mul_assoc]
              rw [e10]
              generalize 15 * 10 ^ i = T at *
              omega
          · rw [if_neg (by simp [hu])]
            exact Do.nil ⟨j3, r, on, tw, aa, bb, rfl, hj3.mono (by omega), hq, fun x hx => Nat.le_trans (hb2 x hx) (Nat.le_mul_of_pos_right _ (Nat.pow_pos (by decide)))⟩
      · rintro δ ⟨j3, r3, on3, tw3, aa3, bb3, rfl, hj3, hr3, hb3⟩
        refine Do.one (DoS.expr (AE.append 2 rfl (AE.var 4 rfl ⟨none, rows.map dR, rfl, by simp; omega, j3, rows ++ [r3], some (.int (0 + (i : Int))), some (dR r3), on3, tw3, aa3, bb3, ?_, by simp [hri], hj3, fun t ht => ?_⟩)))
        · rw [List.map_append]; rfl
        · rcases List.mem_append.mp ht with h | h
          · refine ⟨(hB t h).1, fun x hx => Nat.le_trans ((hB t h).2 x hx) ?_⟩
            exact Nat.mul_le_mul_left _ (Nat.pow_le_pow_right (by decide) (by omega))
          · rw [List.mem_singleton.mp h]; exact ⟨hr3, hb3⟩
  · rintro δ2 ⟨j', rows, g, rw0, on, tw, aa, bb, rfl, hri, hj', hB⟩
    rw [rngD_len] at hri hj' hB
    have : v < 7 := v1
    refine Do.one (DoS.ret (AE.frz 2 rfl (fin1 0 rfl rfl (hk j' rows (hj'.mono (by omega)) (by omega) fun r hr => ⟨(hB r hr).1, fun x hx => Nat.le_trans ((hB r hr).2 x hx) ?_⟩))))
    calc 15 * 10 ^ v.toNat ≤ 15 * 10 ^ 6 := Nat.mul_le_mul_left _ (Nat.pow_le_pow_right (by decide) (by omega))
      _ = 15000000 := by decide
end
end K21
namespace K21
open PySem PySem.Spec PyProof.Rows L2 Evl AX
open RX (redR)
abbrev sHeard : Stmt := topS 32
theorem scHeard : FnScope ["deed"] ["deed"] (defScope sHeard) := ⟨rfl, rfl, rfl, by decide +kernel, rfl, by decide +kernel, by decide +kernel⟩
/-- ("told", rows) -/
abbrev dTold (rows : List RX.Row) : DV := .tup [.str "told", dRs rows]
section
variable {P : Program} {w : World} {S : Sig} {mg : Str → Option Value} {base : Heap}
/-- rows that can be reduced: of one width, small all along -/
def Fine (n : Nat) (ro : List RX.Row) : Prop := n ≤ 1000 ∧ ro.length < 1000 ∧ (∀ r ∈ ro, r.length = n) ∧ RX.SmR [] ro
end
end K21
/-! Spans; the reduced rows are told by the span. -/
namespace RX
inductive Lin (R : List Row) : (Nat → Int) → Prop
  | zero : Lin R (fun _ => 0)
  | mem {r : Row} (h : r ∈ R) : Lin R (at_ r)
  | add {f g : Nat → Int} : Lin R f → Lin R g → Lin R (fun i => f i + g i)
  | smul {f : Nat → Int} (c : Int) : Lin R f → Lin R (fun i => c * f i)
theorem Lin.congr {R : List Row} {f g : Nat → Int} (h : Lin R f) (e : ∀ i, f i = g i) : Lin R g := by
  have : f = g := funext e
  rw [← this]; exact h
theorem Lin.mono {R R' : List Row} {f : Nat → Int} (h : Lin R f) (m : ∀ r ∈ R, r ∈ R') : Lin R' f := by
  induction h with
  | zero => exact .zero
  | mem h => exact .mem (m _ h)
  | add _ _ a b => exact .add a b
  | smul c _ a => exact .smul c a
/-- f times a number that is not 0 is a sum of multiples of the rows -/
def InS (R : List Row) (f : Nat → Int) : Prop := ∃ q : Int, q ≠ 0 ∧ Lin R (fun i => q * f i)
theorem InS.of {R : List Row} {f : Nat → Int} (h : Lin R f) : InS R f := ⟨1, by decide, h.congr fun i => by rw [Int.one_mul]⟩
theorem InS.mem {R : List Row} {r : Row} (h : r ∈ R) : InS R (at_ r) := .of (.mem h)
theorem InS.mono {R R' : List Row} {f : Nat → Int} (h : InS R f) (m : ∀ r ∈ R, r ∈ R') : InS R' f := let ⟨q, a, b⟩ := h; ⟨q, a, b.mono m⟩
theorem InS.congr {R : List Row} {f g : Nat → Int} (h : InS R f) (e : ∀ i, f i = g i) : InS R g := let ⟨q, a, b⟩ := h; ⟨q, a, b.congr fun i => by rw [e]⟩
theorem InS.lin {R : List Row} {f g : Nat → Int} (h : InS R f) (h' : InS R g) (a b : Int) : InS R (fun i => a * f i + b * g i) := by
  obtain ⟨q, q0, hf⟩ := h
  obtain ⟨p, p0, hg⟩ := h'
  refine ⟨q * p, Int.mul_ne_zero q0 p0, ((hf.smul (p * a)).add (hg.smul (q * b))).congr fun i => ?_⟩
  rw [Int.mul_add]
  congr 1
  · rw [Int.mul_assoc, Int.mul_left_comm a q, ← Int.mul_assoc, Int.mul_comm p q]
  · rw [Int.mul_assoc, Int.mul_left_comm b p, ← Int.mul_assoc]
/-- from a multiple -/
theorem InS.div {R : List Row} {f g : Nat → Int} (c : Int) (hc : c ≠ 0) (h : InS R g) (e : ∀ i, c * f i = g i) : InS R f := by
  obtain ⟨q, q0, hg⟩ := h
  exact ⟨q * c, Int.mul_ne_zero q0 hc, hg.congr fun i => by rw [← e, Int.mul_assoc]⟩
theorem InS.zero {R : List Row} {f : Nat → Int} (h : ∀ i, f i = 0) : InS R f := (InS.of .zero).congr fun i => (h i).symm
theorem InS.trans {R R' : List Row} {f : Nat → Int} (h : InS R f) (m : ∀ r ∈ R, InS R' (at_ r)) : InS R' f := by
  have key : ∀ {g : Nat → Int}, Lin R g → InS R' g := fun {g} hg => by
    induction hg with
    | zero => exact .zero fun _ => rfl
    | mem h => exact m _ h
    | add _ _ a b => exact (a.lin b 1 1).congr fun i => by simp
    | smul c _ a => exact (a.lin a c 0).congr fun i => by simp
  obtain ⟨q, q0, hf⟩ := h
  exact (key hf).div q q0 fun i => rfl
/-! ### sums with numbers told -/
def comb : List Int → List Row → Nat → Int
  | d :: ds, r :: rs, i => d * at_ r i + comb ds rs i
  | _, _, _ => 0
theorem comb_zero : ∀ (R : List Row) (i : Nat), comb (R.map fun _ => 0) R i = 0
  | [], _ => rfl
  | r :: R, i => by show 0 * at_ r i + comb (R.map fun _ => 0) R i = 0; rw [comb_zero R i]; simp
theorem comb_add : ∀ {R : List Row} {ds es : List Int} (i : Nat), ds.length = R.length → es.length = R.length → comb (List.zipWith (· + ·) ds es) R i = comb ds R i + comb es R i
  | [], [], [], _, _, _ => rfl
  | r :: R, d :: ds, e :: es, i, h1, h2 => by
    show (d + e) * at_ r i + comb (List.zipWith (· + ·) ds es) R i = _
    rw [comb_add (R := R) i (by simpa using h1) (by simpa using h2)]
    show _ = d * at_ r i + comb ds R i + (e * at_ r i + comb es R i)
    rw [Int.add_mul]; omega
theorem comb_smul (c : Int) : ∀ {R : List Row} {ds : List Int} (i : Nat), comb (ds.map (c * ·)) R i = c * comb ds R i
  | [], ds, i => by cases ds <;> simp [comb]
  | r :: R, [], i => by simp [comb]
  | r :: R, d :: ds, i => by
    show c * d * at_ r i + comb (ds.map (c * ·)) R i = c * (d * at_ r i + comb ds R i)
    rw [comb_smul c (R := R) i, Int.mul_add, Int.mul_assoc]
theorem Lin.comb {R : List Row} {f : Nat → Int} (h : Lin R f) : ∃ ds : List Int, ds.length = R.length ∧ ∀ i, f i = RX.comb ds R i := by
  induction h with
  | zero => exact ⟨R.map fun _ => 0, by simp, fun i => (comb_zero R i).symm⟩
  | @mem r h =>
    have : ∀ {R : List Row}, r ∈ R → ∃ ds : List Int, ds.length = R.length ∧ ∀ i, at_ r i = RX.comb ds R i := by
      intro R
      induction R with
      | nil => intro h; simp at h
      | cons x R ih =>
        intro h
        by_cases e : r = x
        · subst e
          refine ⟨1 :: R.map fun _ => 0, by simp, fun i => ?_⟩
          show _ = 1 * at_ r i + RX.comb (R.map fun _ => 0) R i
          rw [comb_zero]; simp
        · obtain ⟨ds, h1, h2⟩ := ih ((List.mem_cons.mp h).resolve_left e)
          refine ⟨0 :: ds, by simp [h1], fun i => ?_⟩
          show _ = 0 * at_ x i + RX.comb ds R i
          rw [h2]; simp
    exact this h
  | add _ _ a b =>
    obtain ⟨ds, h1, h2⟩ := a
    obtain ⟨es, h3, h4⟩ := b
    exact ⟨List.zipWith (· + ·) ds es, by simp [h1, h3], fun i => by rw [comb_add i h1 h3, ← h2, ← h4]⟩
  | smul c _ a =>
    obtain ⟨ds, h1, h2⟩ := a
    exact ⟨ds.map (c * ·), by simp [h1], fun i => by rw [comb_smul, ← h2]⟩
theorem lin_comb : ∀ {R R' : List Row} (ds : List Int), (∀ r ∈ R', r ∈ R) → Lin R (comb ds R')
  | R, [], ds, _ => by cases ds <;> exact .zero
  | R, r :: R', [], _ => .zero
  | R, r :: R', d :: ds, h => (Lin.smul d (.mem (h r (by simp)))).add (lin_comb ds fun x hx => h x (by simp [hx]))
/-! ### leads -/
theorem comb_before : ∀ {L : List Row} {ds : List Int} {i : Nat}, (∀ s ∈ L, i < lead s) → comb ds L i = 0
  | [], ds, i, _ => by cases ds <;> rfl
  | s :: L, [], i, _ => rfl
  | s :: L, d :: ds, i, h => by
    show d * at_ s i + comb ds L i = 0
    rw [lead_before (h s (by simp)), comb_before fun x hx => h x (by simp [hx])]; simp
theorem comb_none : ∀ {L : List Row} {ds : List Int}, L.Pairwise (fun r s => lead r < lead s) → (∀ r ∈ L, ¬ isZ r) → (∀ r ∈ L, comb ds L (lead r) = 0) → ∀ i, comb ds L i = 0
  | [], ds, _, _, _, i => by cases ds <;> rfl
  | s :: L, [], _, _, _, i => rfl
  | s :: L, d :: ds, pw, nz, h, i => by
    have p := List.pairwise_cons.mp pw
    have h0 : d * at_ s (lead s) + comb ds L (lead s) = 0 := h s (by simp)
    rw [comb_before fun x hx => p.1 x hx, Int.add_zero] at h0
    have hd : d = 0 := (Int.mul_eq_zero.mp h0).resolve_right (lead_ne (nz s (by simp)))
    subst hd
    have e : ∀ j, comb (0 :: ds) (s :: L) j = comb ds L j := fun j => by show 0 * at_ s j + comb ds L j = _; simp
    rw [e]
    exact comb_none p.2 (fun r hr => nz r (by simp [hr])) (fun r hr => by rw [← e]; exact h r (by simp [hr])) i
theorem comb_lead : ∀ {L : List Row} {ds : List Int} {p : Nat}, L.Pairwise (fun r s => lead r < lead s) → (∀ r ∈ L, ¬ isZ r) → (∀ i, i < p → comb ds L i = 0) → comb ds L p ≠ 0 → ∃ s ∈ L, lead s = p
  | [], ds, p, _, _, _, h => absurd (by cases ds <;> rfl) h
  | s :: L, [], p, _, _, _, h => absurd rfl h
  | s :: L, d :: ds, p, pw, nz, hb, h => by
    have pc := List.pairwise_cons.mp pw
    by_cases hd : d = 0
    · subst hd
      have e : ∀ j, comb (0 :: ds) (s :: L) j = comb ds L j := fun j => by show 0 * at_ s j + comb ds L j = _; simp
      obtain ⟨t, ht, e2⟩ := comb_lead pc.2 (fun r hr => nz r (by simp [hr])) (fun i hi => by rw [← e]; exact hb i hi) (by rw [← e]; exact h)
      exact ⟨t, by simp [ht], e2⟩
    · refine ⟨s, by simp, ?_⟩
      rcases Nat.lt_trichotomy (lead s) p with q | q | q
      · exfalso
        have h0 : d * at_ s (lead s) + comb ds L (lead s) = 0 := hb _ q
        rw [comb_before fun x hx => pc.1 x hx, Int.add_zero] at h0
        exact Int.mul_ne_zero hd (lead_ne (nz s (by simp))) h0
      · exact q
      · exact absurd (comb_before fun x hx => by
          rcases List.mem_cons.mp hx with rfl | hx
          · exact q
          · exact Nat.lt_trans q (pc.1 x hx)) h
section
variable {w : Nat} {L L' : List Row}
theorem Red.nz (R : Red w L) : ∀ r ∈ L, ¬ isZ r := fun r hr => (R.each r hr).1.nz
/-- in the span, and 0 at the leads: 0 -/
theorem Red.none (R : Red w L) {f : Nat → Int} (h : InS L f) (z : ∀ r ∈ L, f (lead r) = 0) : ∀ i, f i = 0 := fun i => by
  obtain ⟨q, q0, hl⟩ := h
  obtain ⟨ds, _, e⟩ := hl.comb
  have := comb_none R.lt R.nz (fun r hr => by rw [← e, z r hr, Int.mul_zero]) i
  rw [← e] at this
  exact (Int.mul_eq_zero.mp this).resolve_left q0
theorem Red.leads (R' : Red w L') {r : Row} (nz : ¬ isZ r) (h : InS L' (at_ r)) : ∃ s ∈ L', lead s = lead r := by
  obtain ⟨q, q0, hl⟩ := h
  obtain ⟨ds, _, e⟩ := hl.comb
  exact comb_lead R'.lt R'.nz (fun i hi => by rw [← e, lead_before hi, Int.mul_zero]) (by rw [← e]; exact Int.mul_ne_zero q0 (lead_ne nz))
theorem Red.sub (R : Red w L) (R' : Red w L') (h : ∀ r ∈ L, InS L' (at_ r)) (h' : ∀ r ∈ L', InS L (at_ r)) : ∀ r ∈ L, r ∈ L' := fun r hr => by
  obtain ⟨s, hs, e⟩ := R'.leads (R.nz r hr) (h r hr)
  have key : ∀ i, leadV s * at_ r i + (- leadV r) * at_ s i = 0 := R'.none ((h r hr).lin (InS.mem hs) (leadV s) (- leadV r)) fun t ht => by
    by_cases et : lead t = lead r
    · rw [et]
      have e1 : at_ s (lead r) = leadV s := by unfold leadV; rw [e]
      rw [e1]
      show leadV s * leadV r + -leadV r * leadV s = 0
      rw [Int.neg_mul, Int.mul_comm]; omega
    · obtain ⟨t', ht', e2⟩ := R.leads (R'.nz t ht) (h' t ht)
      have z1 : at_ r (lead t) = 0 := by rw [← e2]; exact R.off hr ht' (fun z => et (by rw [← e2, ← z]))
      have z2 : at_ s (lead t) = 0 := R'.off hs ht (fun z => et (by rw [← z, e]))
      rw [z1, z2]; simp
  have ps := (R'.each s hs).1
  have pr := (R.each r hr).1
  have : r = s := prim_unique pr ps (by rw [(R.each r hr).2, (R'.each s hs).2]) (a := leadV s) (b := leadV r) (by have := ps.2; omega) (by have := pr.2; omega) fun i => by
    have := key i
    rw [Int.neg_mul] at this
    omega
  rw [this]; exact hs
theorem same_of_mem : ∀ {L L' : List Row}, L.Pairwise (fun r s => lead r < lead s) → L'.Pairwise (fun r s => lead r < lead s) → (∀ r ∈ L, r ∈ L') → (∀ r ∈ L', r ∈ L) → L = L'
  | [], [], _, _, _, _ => rfl
  | [], s :: L', _, _, _, h => absurd (h s (by simp)) (by simp)
  | r :: L, [], _, _, h, _ => absurd (h r (by simp)) (by simp)
  | r :: L, s :: L', pw, pw', h, h' => by
    have p := List.pairwise_cons.mp pw
    have p' := List.pairwise_cons.mp pw'
    have e : r = s := by
      rcases List.mem_cons.mp (h r (by simp)) with e | m
      · exact e
      · rcases List.mem_cons.mp (h' s (by simp)) with e | m'
        · exact e.symm
        · have := p.1 s m'; have := p'.1 r m; omega
    subst e
    have : L = L' := same_of_mem p.2 p'.2 (fun x hx => by
      rcases List.mem_cons.mp (h x (by simp [hx])) with e | m
      · have := p.1 x hx; rw [e] at this; omega
      · exact m) (fun x hx => by
      rcases List.mem_cons.mp (h' x (by simp [hx])) with e | m
      · have := p'.1 x hx; rw [e] at this; omega
      · exact m)
    rw [this]
theorem Red.unique (R : Red w L) (R' : Red w L') (h : ∀ r ∈ L, InS L' (at_ r)) (h' : ∀ r ∈ L', InS L (at_ r)) : L = L' := same_of_mem R.lt R'.lt (R.sub R' h h') (R'.sub R h' h)
end
/-! ### the elimination keeps the span -/
theorem prim_in {R : List Row} {r : Row} (h : InS R (at_ r)) : InS R (at_ (prim r)) := by
  by_cases hz : isZ r
  · rw [prim_z hz]; exact h
  · have hg : (gcdL r : Int) ≠ 0 := by have := gcd_pos hz; omega
    exact (h.lin h (sgn (leadV r)) 0).div _ hg fun i => by rw [prim_mul hz]; simp
theorem in_prim {R : List Row} {r : Row} (h : InS R (at_ (prim r))) : InS R (at_ r) := by
  by_cases hz : isZ r
  · rw [prim_z hz] at h; exact h
  · exact (h.lin h (sgn (leadV r) * gcdL r) 0).congr fun i => by rw [prim_mul' hz]; simp
theorem wo_in {R : List Row} {r o : Row} (e : r.length = o.length) {l : Nat} (hl : at_ o l ≠ 0) (h1 : InS R (at_ r)) (h2 : InS R (at_ o)) : InS R (at_ (wo r o l)) := by
  obtain ⟨a, c, d, ha, hc, q⟩ := wo_rel e hl
  exact (h1.lin h2 c (-d)).div a ha fun i => by rw [q, Int.neg_mul]; omega
theorem in_wo {R : List Row} {r o : Row} (e : r.length = o.length) {l : Nat} (hl : at_ o l ≠ 0) (h1 : InS R (at_ (wo r o l))) (h2 : InS R (at_ o)) : InS R (at_ r) := by
  obtain ⟨a, c, d, ha, hc, q⟩ := wo_rel e hl
  exact (h1.lin h2 a d).div c hc fun i => by rw [q]; omega
theorem redF_in {w : Nat} : ∀ {R L : List Row} {r : Row}, (∀ o ∈ L, o.length = w ∧ ¬ isZ o) → r.length = w → (∀ o ∈ L, InS R (at_ o)) → (InS R (at_ (redF L r)) ↔ InS R (at_ r))
  | R, [], r, _, _, _ => Iff.rfl
  | R, o :: os, r, ho, hr, h => by
    have e : r.length = o.length := by rw [hr, (ho o (by simp)).1]
    have hl := lead_ne (ho o (by simp)).2
    have := redF_in (R := R) (L := os) (r := wo r o (lead o)) (fun x hx => ho x (by simp [hx])) (by rw [wo_len _ e, hr]) fun x hx => h x (by simp [hx])
    exact this.trans ⟨fun q => in_wo e hl q (h o (by simp)), fun q => wo_in e hl q (h o (by simp))⟩
section
variable {w : Nat} {L : List Row} {r : Row}
theorem addR_span (R : Red w L) (hr : r.length = w) : (∀ x ∈ addR L r, InS (r :: L) (at_ x)) ∧ ∀ x ∈ r :: L, InS (addR L r) (at_ x) := by
  have hL : ∀ o ∈ L, o.length = w ∧ ¬ isZ o := fun o ho => ⟨(R.each o ho).2, R.nz o ho⟩
  have inL : ∀ o ∈ L, InS (r :: L) (at_ o) := fun o ho => .mem (by simp [ho])
  have hN : InS (r :: L) (at_ (prim (redF L r))) := prim_in ((redF_in hL hr inL).mpr (.mem (by simp)))
  unfold addR
  split
  · rename_i hz
    have hz' := isZb_iff.mp hz
    refine ⟨fun x hx => inL x hx, fun x hx => ?_⟩
    rcases List.mem_cons.mp hx with rfl | hx
    · exact (redF_in hL hr fun o ho => .mem ho).mp (in_prim (.zero hz'))
    · exact .mem hx
  · rename_i hz
    have N1 := New1.mk' R hr fun z => hz (isZb_iff.mpr z)
    generalize hNe : prim (redF L r) = N at *
    have hp := ins_perm N (L.map fun o => wo o N (lead N))
    have eN := lead_ne N1.pr.nz
    have el : ∀ o ∈ L, o.length = N.length := fun o ho => by rw [(hL o ho).1, N1.len]
    have mN : N ∈ ins N (L.map fun o => wo o N (lead N)) := hp.mem_iff.mpr (by simp)
    have back : ∀ o ∈ L, InS (ins N (L.map fun o => wo o N (lead N))) (at_ o) := fun o ho => in_wo (el o ho) eN (.mem (hp.mem_iff.mpr (by simp only [List.mem_cons, List.mem_map]; exact .inr ⟨o, ho, rfl⟩))) (.mem mN)
    refine ⟨fun x hx => ?_, fun x hx => ?_⟩
    · rcases List.mem_cons.mp (hp.mem_iff.mp hx) with rfl | hx
      · exact hN
      · obtain ⟨o, ho, rfl⟩ := List.mem_map.mp hx
        exact wo_in (el o ho) eN (inL o ho) hN
    · rcases List.mem_cons.mp hx with rfl | hx
      · refine (redF_in hL hr back).mp (in_prim ?_)
        rw [hNe]; exact .mem mN
      · exact back x hx
theorem fold_span : ∀ {rs L : List Row}, Red w L → (∀ r ∈ rs, r.length = w) → Red w (rs.foldl addR L) ∧ (∀ x ∈ rs.foldl addR L, InS (rs ++ L) (at_ x)) ∧ ∀ x ∈ rs ++ L, InS (rs.foldl addR L) (at_ x)
  | [], L, R, _ => ⟨R, fun x hx => .mem hx, fun x hx => .mem hx⟩
  | r :: rs, L, R, h => by
    have hr := h r (by simp)
    obtain ⟨s1, s2⟩ := addR_span R hr
    obtain ⟨R2, t1, t2⟩ := fold_span (rs := rs) (addR_red R hr) fun x hx => h x (by simp [hx])
    refine ⟨R2, fun x hx => (t1 x hx).trans fun y hy => ?_, fun x hx => ?_⟩
    · rcases List.mem_append.mp hy with q | q
      · exact .mem (by simp [q])
      · exact (s1 y q).mono fun z hz => by
          rcases List.mem_cons.mp hz with rfl | hz
          · simp
          · simp [hz]
    · have up : ∀ y, y ∈ r :: L → InS (List.foldl addR (addR L r) rs) (at_ y) := fun y hy => (s2 y hy).trans fun z hz => t2 z (by simp [hz])
      rcases List.mem_append.mp hx with q | q
      · rcases List.mem_cons.mp q with rfl | q
        · exact up _ (by simp)
        · exact t2 x (by simp [q])
      · exact up x (by simp [q])
end
/-- lists of one span have one reduced form -/
theorem redR_same {w : Nat} {A B : List Row} (hA : ∀ r ∈ A, r.length = w) (hB : ∀ r ∈ B, r.length = w) (h : ∀ r ∈ A, InS B (at_ r)) (h' : ∀ r ∈ B, InS A (at_ r)) : redR A = redR B := by
  obtain ⟨RA, a1, a2⟩ := fold_span (Red.nil w) hA
  obtain ⟨RB, b1, b2⟩ := fold_span (Red.nil w) hB
  refine RA.unique RB (fun r hr => (a1 r hr).trans fun x hx => (h x (by simpa using hx)).trans fun y hy => b2 y (by simp [hy])) fun r hr => (b1 r hr).trans fun x hx => (h' x (by simpa using hx)).trans fun y hy => a2 y (by simp [hy])
end RX
/-! Lists of rows of one span. -/
namespace RX
structure Kin (n : Nat) (A B : List Row) : Prop where
  len : ∀ r ∈ B, r.length = n
  le : B.length ≤ 2 * A.length + 1
  to : ∀ r ∈ A, InS B (at_ r)
  fro : ∀ r ∈ B, InS A (at_ r)
section
variable {n : Nat} {A B : List Row} (hA : ∀ r ∈ A, r.length = n)
include hA
theorem Kin.same : redR A = redR B ↔ redR A = redR B := Iff.rfl
theorem Kin.red (K : Kin n A B) : redR B = redR A := (redR_same hA K.len K.to K.fro).symm
theorem kin_perm (h : B.Perm A) : Kin n A B := ⟨fun r hr => hA r (h.mem_iff.mp hr), by rw [h.length_eq]; omega, fun r hr => .mem (h.mem_iff.mpr hr), fun r hr => .mem (h.mem_iff.mp hr)⟩
theorem kin_double : Kin n A (A ++ A) := ⟨fun r hr => hA r (by simpa using hr), by simp; omega, fun r hr => .mem (by simp [hr]), fun r hr => .mem (by simpa using hr)⟩
theorem kin_zero : Kin n A (A ++ [List.replicate n 0]) := by
  have z : ∀ i, at_ (List.replicate n 0) i = 0 := fun i => by
    by_cases hi : i < n
    · rw [at_eq_get (by simpa using hi)]; simp
    · exact at_ge (by simpa using hi)
  refine ⟨fun r hr => ?_, by simp; omega, fun r hr => .mem (by simp [hr]), fun r hr => ?_⟩
  · rcases List.mem_append.mp hr with q | q
    · exact hA r q
    · rw [List.mem_singleton.mp q]; simp
  · rcases List.mem_append.mp hr with q | q
    · exact .mem q
    · rw [List.mem_singleton.mp q]; exact .zero z
theorem scale_in {R : List Row} {r : Row} (c : Int) (h : InS R (at_ r)) : InS R (at_ (r.map (c * ·))) := (h.lin h c 0).congr fun i => by rw [at_map (f := fun x => c * x) (by simp)]; simp
theorem in_scale {R : List Row} {r : Row} {c : Int} (hc : c ≠ 0) (h : InS R (at_ (r.map (c * ·)))) : InS R (at_ r) := h.div c hc fun i => by rw [at_map (f := fun x => c * x) (by simp)]
theorem kin_scale {c : Int} (hc : c ≠ 0) : Kin n A (A.map fun r => r.map (c * ·)) := by
  refine ⟨fun r hr => ?_, by simp; omega, fun r hr => in_scale hA hc (.mem (List.mem_map.mpr ⟨r, hr, rfl⟩)), fun r hr => ?_⟩
  · obtain ⟨x, hx, rfl⟩ := List.mem_map.mp hr
    rw [List.length_map]; exact hA x hx
  · obtain ⟨x, hx, rfl⟩ := List.mem_map.mp hr
    exact scale_in hA c (.mem hx)
theorem kin_first {c : Int} (hc : c ≠ 0) : Kin n A ((A.take 1).map (fun r => r.map (c * ·)) ++ A.drop 1) := by
  refine ⟨fun r hr => ?_, by simp; omega, fun r hr => ?_, fun r hr => ?_⟩
  · rcases List.mem_append.mp hr with q | q
    · obtain ⟨x, hx, rfl⟩ := List.mem_map.mp q
      rw [List.length_map]; exact hA x (List.mem_of_mem_take hx)
    · exact hA r (List.mem_of_mem_drop q)
  · rw [← List.take_append_drop 1 A] at hr
    rcases List.mem_append.mp hr with q | q
    · exact in_scale hA hc (.mem (List.mem_append.mpr (.inl (List.mem_map.mpr ⟨r, q, rfl⟩))))
    · exact .mem (List.mem_append.mpr (.inr q))
  · rcases List.mem_append.mp hr with q | q
    · obtain ⟨x, hx, rfl⟩ := List.mem_map.mp q
      exact scale_in hA c (.mem (List.mem_of_mem_take hx))
    · exact .mem (List.mem_of_mem_drop q)
theorem kin_add {a t : Nat} (ha : a < A.length) (ht : t < A.length) (ne : a ≠ t) (c : Int) : Kin n A (A.take a ++ [List.zipWith (fun x y => x + c * y) A[a] A[t]] ++ A.drop (a + 1)) := by
  have la := hA _ (List.getElem_mem ha)
  have lt := hA _ (List.getElem_mem ht)
  have ln : (List.zipWith (fun x y => x + c * y) A[a] A[t]).length = n := by rw [List.length_zipWith, la, lt]; simp
  have hat : ∀ i, at_ (List.zipWith (fun x y => x + c * y) A[a] A[t]) i = at_ A[a] i + c * at_ A[t] i := fun i => by
    by_cases hi : i < n
    · rw [at_eq_get (by rw [ln]; exact hi), at_eq_get (by rw [la]; exact hi), at_eq_get (by rw [lt]; exact hi), List.getElem_zipWith]
    · rw [at_ge (by rw [ln]; omega), at_ge (r := A[a]) (i := i) (by rw [la]; omega), at_ge (r := A[t]) (i := i) (by rw [lt]; omega)]; simp
  generalize List.zipWith (fun x y => x + c * y) A[a] A[t] = w at *
  have mem_other : ∀ (j : Nat) (hj : j < A.length), j ≠ a → A[j] ∈ A.take a ++ [w] ++ A.drop (a + 1) := fun j hj hne => by
    rcases Nat.lt_or_gt_of_ne hne with q | q
    · have : A[j] ∈ A.take a := List.mem_iff_getElem.mpr ⟨j, by simp; omega, by simp⟩
      simp [this]
    · have : A[j] ∈ A.drop (a + 1) := List.mem_iff_getElem.mpr ⟨j - (a + 1), by simp; omega, by simp; congr 1; omega⟩
      simp [this]
  refine ⟨fun r hr => ?_, by simp; omega, fun r hr => ?_, fun r hr => ?_⟩
  · rcases List.mem_append.mp hr with q | q
    · rcases List.mem_append.mp q with q | q
      · exact hA r (List.mem_of_mem_take q)
      · rw [List.mem_singleton.mp q]; exact ln
    · exact hA r (List.mem_of_mem_drop q)
  · obtain ⟨j, hj, rfl⟩ := List.getElem_of_mem hr
    by_cases e : j = a
    · subst e
      have h1 : InS (A.take j ++ [w] ++ A.drop (j + 1)) (at_ w) := .mem (by simp)
      have h2 : InS (A.take j ++ [w] ++ A.drop (j + 1)) (at_ A[t]) := .mem (mem_other t ht (Ne.symm ne))
      exact (h1.lin h2 1 (-c)).congr fun i => by rw [hat, Int.neg_mul]; omega
    · exact .mem (mem_other j hj e)
  · rcases List.mem_append.mp hr with q | q
    · rcases List.mem_append.mp q with q | q
      · exact .mem (List.mem_of_mem_take q)
      · rw [List.mem_singleton.mp q]
        have h1 : InS A (at_ A[a]) := .mem (List.getElem_mem ha)
        have h2 : InS A (at_ A[t]) := .mem (List.getElem_mem ht)
        exact (h1.lin h2 1 c).congr fun i => by rw [hat]; omega
    · exact .mem (List.mem_of_mem_drop q)
end
/-- the reduced list itself -/
theorem kin_red {n : Nat} {A : List Row} (hA : ∀ r ∈ A, r.length = n) : (∀ r ∈ redR A, r.length = n) ∧ redR (redR A) = redR A := by
  obtain ⟨RA, a1, a2⟩ := fold_span (Red.nil n) hA
  have hl : ∀ r ∈ redR A, r.length = n := fun r hr => (RA.each r hr).2
  exact ⟨hl, (redR_same hA hl (fun r hr => a2 r (by simp [hr])) fun r hr => (a1 r hr).mono fun x hx => by simpa using hx).symm⟩
end RX
/-! Bounds: small sums of independent rows (two of more sums than places agree). -/
namespace RX
theorem pigeon : ∀ (b a : Nat) (f : Nat → Nat), b < a → (∀ i, i < a → f i < b) → ∃ i j, i < j ∧ j < a ∧ f i = f j
  | 0, a, f, h, hf => absurd (hf 0 h) (Nat.not_lt_zero _)
  | b + 1, a, f, h, hf => by
    -- the last one's place is taken from the others
    by_cases hx : ∃ i, i < a - 1 ∧ f i = f (a - 1)
    · obtain ⟨i, h1, h2⟩ := hx
      exact ⟨i, a - 1, h1, by omega, h2⟩
    · have hne : ∀ i, i < a - 1 → f i ≠ f (a - 1) := fun i hi e => hx ⟨i, hi, e⟩
      obtain ⟨i, j, h1, h2, h3⟩ := pigeon b (a - 1) (fun i => if f i < f (a - 1) then f i else f i - 1) (by omega) fun i hi => by
        have := hf i (by omega)
        have := hf (a - 1) (by omega)
        have := hne i hi
        show (if f i < f (a - 1) then f i else f i - 1) < b
        split <;> omega
      refine ⟨i, j, h1, by omega, ?_⟩
      have n1 := hne i (by omega)
      have n2 := hne j h2
      have h3 : (if f i < f (a - 1) then f i else f i - 1) = (if f j < f (a - 1) then f j else f j - 1) := h3
      split at h3 <;> split at h3 <;> omega
/-- the digits of n -/
def digs (m : Nat) : Nat → Nat → List Int
  | 0, _ => []
  | k + 1, n => ((n % m : Nat) : Int) :: digs m k (n / m)
theorem digs_len (m : Nat) : ∀ k n, (digs m k n).length = k
  | 0, _ => rfl
  | k + 1, n => congrArg (· + 1) (digs_len m k (n / m))
theorem digs_inj {m : Nat} (hm : 0 < m) : ∀ {k n n' : Nat}, n < m ^ k → n' < m ^ k → digs m k n = digs m k n' → n = n'
  | 0, n, n', h, h', _ => by simp at h h'; omega
  | k + 1, n, n', h, h', e => by
    have e : ((n % m : Nat) : Int) :: digs m k (n / m) = ((n' % m : Nat) : Int) :: digs m k (n' / m) := e
    injection e with e1 e2
    have e1 : n % m = n' % m := by omega
    have := digs_inj hm (k := k) (n := n / m) (n' := n' / m) (Nat.div_lt_of_lt_mul (by rw [Nat.pow_succ, Nat.mul_comm] at h; exact h)) (Nat.div_lt_of_lt_mul (by rw [Nat.pow_succ, Nat.mul_comm] at h'; exact h')) e2
    rw [← Nat.mod_add_div n m, ← Nat.mod_add_div n' m, e1, this]
theorem digs_bd {m : Nat} (hm : 0 < m) : ∀ {k n : Nat} {x : Int}, x ∈ digs m k n → 0 ≤ x ∧ x < m
  | k + 1, n, x, h => by
    rcases List.mem_cons.mp h with rfl | h
    · have := Nat.mod_lt n hm; omega
    · exact digs_bd hm h
def BdR (B : Nat) (K : List Row) : Prop := ∀ r ∈ K, ∀ i, (at_ r i).natAbs ≤ B
theorem comb_bd {B N : Nat} : ∀ {K : List Row} {ds : List Int} (i : Nat), BdR B K → (∀ d ∈ ds, d.natAbs ≤ N) → (comb ds K i).natAbs ≤ K.length * (N * B)
  | [], ds, i, _, _ => by cases ds <;> simp [comb]
  | r :: K, [], i, _, _ => by simp [comb]
  | r :: K, d :: ds, i, hB, hd => by
    have h1 := comb_bd (K := K) (ds := ds) i (fun x hx => hB x (by simp [hx])) fun x hx => hd x (by simp [hx])
    have h2 : (d * at_ r i).natAbs ≤ N * B := by rw [Int.natAbs_mul]; exact Nat.mul_le_mul (hd d (by simp)) (hB r (by simp) i)
    have h3 := Int.natAbs_add_le (d * at_ r i) (comb ds K i)
    show (d * at_ r i + comb ds K i).natAbs ≤ _
    rw [List.length_cons, Nat.add_mul, Nat.one_mul]
    omega
/-- the sums at the places ps, as one number -/
def enc (C : Nat) (g : Nat → Int) : List Nat → Nat
  | [] => 0
  | p :: ps => (g p + C).toNat + (2 * C + 1) * enc C g ps
theorem enc_lt {C : Nat} {g : Nat → Int} (h : ∀ p, (g p).natAbs ≤ C) : ∀ ps : List Nat, enc C g ps < (2 * C + 1) ^ ps.length
  | [] => by simp [enc]
  | p :: ps => by
    have h1 := enc_lt h ps
    have h2 := h p
    show (g p + C).toNat + (2 * C + 1) * enc C g ps < (2 * C + 1) ^ (ps.length + 1)
    rw [Nat.pow_succ]
    have h3 : (2 * C + 1) * (enc C g ps + 1) ≤ (2 * C + 1) * (2 * C + 1) ^ ps.length := Nat.mul_le_mul_left _ h1
    rw [Nat.mul_add, Nat.mul_one] at h3
    rw [Nat.mul_comm ((2 * C + 1) ^ ps.length)]
    omega
theorem enc_inj {C : Nat} {g g' : Nat → Int} (h : ∀ p, (g p).natAbs ≤ C) (h' : ∀ p, (g' p).natAbs ≤ C) : ∀ {ps : List Nat}, enc C g ps = enc C g' ps → ∀ p ∈ ps, g p = g' p
  | [], _, p, hp => by simp at hp
  | q :: ps, e, p, hp => by
    have a1 := h q
    have a2 := h' q
    have e : (g q + C).toNat + (2 * C + 1) * enc C g ps = (g' q + C).toNat + (2 * C + 1) * enc C g' ps := e
    have l1 : (g q + C).toNat < 2 * C + 1 := by omega
    have l2 : (g' q + C).toNat < 2 * C + 1 := by omega
    have m1 : (g q + C).toNat = (g' q + C).toNat := by
      have := congrArg (· % (2 * C + 1)) e
      simp only [Nat.add_mul_mod_self_left] at this
      rwa [Nat.mod_eq_of_lt l1, Nat.mod_eq_of_lt l2] at this
    have m2 : enc C g ps = enc C g' ps := by
      rw [m1] at e
      exact Nat.eq_of_mul_eq_mul_left (by omega) (Nat.add_left_cancel e)
    rcases List.mem_cons.mp hp with rfl | hp
    · omega
    · exact enc_inj h h' m2 p hp
def Indep (K : List Row) : Prop := ∀ ds : List Int, ds.length = K.length → (∀ i, comb ds K i = 0) → ∀ d ∈ ds, d = 0
theorem comb_sub : ∀ {R : List Row} {ds es : List Int} (i : Nat), ds.length = R.length → es.length = R.length → comb (List.zipWith (· - ·) ds es) R i = comb ds R i - comb es R i
  | [], [], [], _, _, _ => rfl
  | r :: R, d :: ds, e :: es, i, h1, h2 => by
    show (d - e) * at_ r i + comb (List.zipWith (· - ·) ds es) R i = _
    rw [comb_sub (R := R) i (by simpa using h1) (by simpa using h2)]
    show _ = d * at_ r i + comb ds R i - (e * at_ r i + comb es R i)
    rw [Int.sub_mul]; omega
/-- a small sum that is 0 at places fewer than the rows -/
theorem small_sum {K : List Row} {B : Nat} (hB : BdR B K) (hB1 : 1 ≤ B) (hI : Indep K) (ps : List Nat) (hps : ps.length + 1 = K.length) :
    ∃ ds : List Int, (∃ i, comb ds K i ≠ 0) ∧ (∀ p ∈ ps, comb ds K p = 0) ∧ ∀ i, (comb ds K i).natAbs ≤ (2 * K.length * B) ^ K.length := by
  generalize hk : K.length = k at *
  generalize hq : 2 * k * B = q
  have hq1 : 1 ≤ q := by
    rw [← hq]
    have : 1 ≤ 2 * k := by omega
    exact Nat.mul_le_mul this hB1
  generalize hN : q ^ (k - 1) = N
  have hbd : ∀ n i, (comb (digs (N + 1) k n) K i).natAbs ≤ k * (N * B) := fun n i => by
    have := comb_bd (N := N) (ds := digs (N + 1) k n) i hB fun d hd => by have := digs_bd (m := N + 1) (by omega) hd; omega
    rwa [hk] at this
  generalize hC : k * (N * B) = C at *
  have cnt : (2 * C + 1) ^ ps.length < (N + 1) ^ k := by
    have h1 : 2 * C + 1 ≤ (N + 1) * q := by
      have : (N + 1) * q = 2 * C + q := by
        rw [← hC, ← hq, Nat.add_mul, Nat.one_mul]
        congr 1
        calc N * (2 * k * B) = 2 * k * (N * B) := by rw [Nat.mul_left_comm]
          _ = 2 * (k * (N * B)) := by rw [Nat.mul_assoc]
      omega
    have hpl : ps.length = k - 1 := by omega
    rw [hpl]
    have hk1 : k = (k - 1) + 1 := by omega
    calc (2 * C + 1) ^ (k - 1) ≤ ((N + 1) * q) ^ (k - 1) := Nat.pow_le_pow_left h1 _
      _ = (N + 1) ^ (k - 1) * N := by rw [Nat.mul_pow, hN]
      _ < (N + 1) ^ (k - 1) * (N + 1) := Nat.mul_lt_mul_of_pos_left (by omega) (Nat.pow_pos (by omega))
      _ = (N + 1) ^ k := by rw [← Nat.pow_succ, ← Nat.succ_eq_add_one]; congr 1; omega
  obtain ⟨a, b, h1, h2, h3⟩ := pigeon _ _ (fun n => enc C (comb (digs (N + 1) k n) K) ps) cnt fun n _ => enc_lt (hbd n) ps
  have heq := enc_inj (hbd a) (hbd b) h3
  have la : (digs (N + 1) k a).length = K.length := by rw [digs_len, hk]
  have lb : (digs (N + 1) k b).length = K.length := by rw [digs_len, hk]
  refine ⟨List.zipWith (· - ·) (digs (N + 1) k a) (digs (N + 1) k b), ?_, fun p hp => by rw [comb_sub p la lb, heq p hp]; omega, fun i => ?_⟩
  · apply Classical.byContradiction
    intro hn
    have hz : ∀ i, comb (List.zipWith (· - ·) (digs (N + 1) k a) (digs (N + 1) k b)) K i = 0 := fun i => Classical.byContradiction fun z => hn ⟨i, z⟩
    have h0 := hI _ (by rw [List.length_zipWith, la, lb]; simp) hz
    have : digs (N + 1) k a = digs (N + 1) k b := by
      apply List.ext_getElem (by rw [la, lb])
      intro i hi hi'
      have := h0 ((digs (N + 1) k a)[i] - (digs (N + 1) k b)[i]) (List.mem_iff_getElem.mpr ⟨i, by rw [List.length_zipWith]; omega, by rw [List.getElem_zipWith]⟩)
      omega
    have := digs_inj (m := N + 1) (by omega) (k := k) (Nat.lt_trans h1 h2) h2 this
    omega
  · have hd : ∀ d ∈ List.zipWith (· - ·) (digs (N + 1) k a) (digs (N + 1) k b), d.natAbs ≤ N := fun d hd => by
      obtain ⟨i, hi, rfl⟩ := List.getElem_of_mem hd
      rw [List.length_zipWith] at hi
      rw [List.getElem_zipWith]
      have x1 := digs_bd (m := N + 1) (by omega) (List.getElem_mem (by omega : i < (digs (N + 1) k a).length))
      have x2 := digs_bd (m := N + 1) (by omega) (List.getElem_mem (by omega : i < (digs (N + 1) k b).length))
      omega
    have := comb_bd (N := N) i hB hd
    rw [hk, hC] at this
    refine Nat.le_trans this ?_
    have : 2 * C = N * q := by
      rw [← hC, ← hq]
      calc 2 * (k * (N * B)) = 2 * k * (N * B) := by rw [Nat.mul_assoc]
        _ = N * (2 * k * B) := by rw [Nat.mul_left_comm]
    have e : q ^ k = N * q := by rw [← hN, ← Nat.pow_succ]; congr 1; omega
    rw [e]; omega
end RX
/-! The reduction's numbers are small. -/
namespace RX
section
variable {w B : Nat} {L K : List Row}
theorem red_bd (R : Red w L) (hKL : ∀ r ∈ K, InS L (at_ r)) (hB : BdR B K) (hB1 : 1 ≤ B) (hI : Indep K) (hlen : K.length = L.length) : ∀ r ∈ L, ∀ i, (at_ r i).natAbs ≤ (2 * K.length * B) ^ K.length := fun r hr => by
  obtain ⟨A, C, e⟩ := List.append_of_mem hr
  obtain ⟨ds, ⟨i0, h0⟩, hz, hb⟩ := small_sum hB hB1 hI ((A ++ C).map lead) (by rw [hlen, e]; simp; omega)
  have mem : ∀ o ∈ A ++ C, o ∈ L ∧ lead o ≠ lead r := fun o ho => by
    have pw := R.lt
    rw [e] at pw
    obtain ⟨_, p2, p3⟩ := List.pairwise_append.mp pw
    rcases List.mem_append.mp ho with q | q
    · exact ⟨by rw [e]; simp [q], Nat.ne_of_lt (p3 o q r (by simp))⟩
    · exact ⟨by rw [e]; simp [q], (Nat.ne_of_lt ((List.pairwise_cons.mp p2).1 o q)).symm⟩
  have hg : InS L (comb ds K) := (InS.of (lin_comb ds fun x hx => hx)).trans hKL
  have key : ∀ i, comb ds K (lead r) * at_ r i + (- leadV r) * comb ds K i = 0 := R.none ((InS.mem hr).lin hg _ _) fun t ht => by
    by_cases et : lead t = lead r
    · rw [et]
      show comb ds K (lead r) * leadV r + -leadV r * comb ds K (lead r) = 0
      rw [Int.neg_mul, Int.mul_comm]; omega
    · have hm : t ∈ A ++ C := by
        rw [e] at ht
        rcases List.mem_append.mp ht with q | q
        · simp [q]
        · rcases List.mem_cons.mp q with rfl | q
          · exact absurd rfl et
          · simp [q]
      rw [R.off hr ht (Ne.symm et), hz _ (List.mem_map.mpr ⟨t, hm, rfl⟩)]; simp
  have eq : ∀ i, comb ds K (lead r) * at_ r i = leadV r * comb ds K i := fun i => by have := key i; rw [Int.neg_mul] at this; omega
  have pr := (R.each r hr).1
  have hl := (R.each r hr).2
  have lv : leadV r ≠ 0 := by have := pr.2; omega
  have gl : comb ds K (lead r) ≠ 0 := fun z => by
    have := eq i0
    rw [z, Int.zero_mul] at this
    exact h0 ((Int.mul_eq_zero.mp this.symm).resolve_left lv)
  have hat : ∀ i, at_ ((List.range w).map (comb ds K)) i = comb ds K i := fun i => by
    by_cases hi : i < w
    · rw [at_eq_get (by simpa using hi)]; simp
    · rw [at_ge (by simpa using hi)]
      have := eq i
      rw [at_ge (by omega), Int.mul_zero] at this
      exact ((Int.mul_eq_zero.mp this.symm).resolve_left lv).symm
  have hp : prim r = prim ((List.range w).map (comb ds K)) := prim_line (by simp [hl]) gl lv fun i => by rw [hat]; exact eq i
  rw [prim_of_isPrim pr] at hp
  intro i
  have h1 := natAbs_prim_le ((List.range w).map (comb ds K)) i
  rw [← hp, hat] at h1
  exact Nat.le_trans h1 (hb i)
end
def BdN (B : Nat) (r : Row) : Prop := ∀ i, (at_ r i).natAbs ≤ B
theorem BdN.sm {B : Nat} {r : Row} (h : BdN B r) (hb : B < 2 ^ big) : Sm r := fun x hx => by
  obtain ⟨i, _, rfl⟩ := at_mem hx
  exact Nat.lt_of_le_of_lt (h i) hb
theorem elim_bd {r o : Row} {b M : Nat} (e : r.length = o.length) (hr : BdN b r) (ho : BdN M o) (l : Nat) : BdN (b * (2 * M)) (elim r o l) := fun i => by
  rw [elim_at e]
  have h1 : (at_ r i * at_ o l).natAbs ≤ b * M := by rw [Int.natAbs_mul]; exact Nat.mul_le_mul (hr i) (ho l)
  have h2 : (at_ o i * at_ r l).natAbs ≤ M * b := by rw [Int.natAbs_mul]; exact Nat.mul_le_mul (ho i) (hr l)
  have h3 := Int.natAbs_sub_le (at_ r i * at_ o l) (at_ o i * at_ r l)
  have e1 : b * (2 * M) = b * M + M * b := by rw [Nat.mul_left_comm, Nat.mul_comm M b]; omega
  omega
theorem wo_bd {r o : Row} {b M : Nat} (e : r.length = o.length) (hM : 1 ≤ M) (hr : BdN b r) (ho : BdN M o) (l : Nat) : BdN (b * (2 * M)) (wo r o l) := fun i => by
  unfold wo
  split
  · have : b * 1 ≤ b * (2 * M) := Nat.mul_le_mul_left b (by omega)
    have := hr i
    omega
  · exact Nat.le_trans (natAbs_prim_le _ i) (elim_bd e hr ho l i)
theorem smF_bd {w M : Nat} (hM : 1 ≤ M) (hM2 : M < 2 ^ big) : ∀ {L : List Row} {r : Row} {b : Nat}, (∀ o ∈ L, o.length = w ∧ BdN M o) → r.length = w → BdN b r → b * (2 * M) ^ L.length < 2 ^ big → SmF L r ∧ BdN (b * (2 * M) ^ L.length) (redF L r)
  | [], r, b, _, _, hr, hb => by
    rw [List.length_nil, Nat.pow_zero, Nat.mul_one] at hb ⊢
    exact ⟨hr.sm hb, hr⟩
  | o :: os, r, b, ho, hl, hr, hb => by
    obtain ⟨ol, oM⟩ := ho o (by simp)
    have e : r.length = o.length := by rw [hl, ol]
    have eb : b * (2 * M) ^ (o :: os).length = b * (2 * M) * (2 * M) ^ os.length := by rw [List.length_cons, Nat.pow_succ, Nat.mul_comm ((2 * M) ^ os.length) (2 * M), ← Nat.mul_assoc b]
    rw [eb] at hb ⊢
    have p1 : 1 ≤ (2 * M) ^ os.length := Nat.pow_pos (by omega)
    have b1 : b * (2 * M) * 1 ≤ b * (2 * M) * (2 * M) ^ os.length := Nat.mul_le_mul_left _ p1
    have b2 : b * 1 ≤ b * (2 * M) := Nat.mul_le_mul_left b (by omega)
    obtain ⟨h1, h2⟩ := smF_bd hM hM2 (L := os) (r := wo r o (lead o)) (b := b * (2 * M)) (fun x hx => ho x (by simp [hx])) (by rw [wo_len _ e, hl]) (wo_bd e hM hr oM _) hb
    exact ⟨⟨hr.sm (by omega), oM.sm hM2, (elim_bd e hr oM _).sm (by omega), h1⟩, h2⟩
theorem smA_bd {w M b : Nat} {L : List Row} {r : Row} (hM : 1 ≤ M) (hM2 : M < 2 ^ big) (hL : ∀ o ∈ L, o.length = w ∧ BdN M o) (hl : r.length = w) (hr : BdN b r) (hb : b * (2 * M) ^ (L.length + 1) < 2 ^ big) : SmA L r := by
  have e : b * (2 * M) ^ (L.length + 1) = b * (2 * M) ^ L.length * (2 * M) := by rw [Nat.pow_succ, Nat.mul_assoc]
  rw [e] at hb
  have b1 : b * (2 * M) ^ L.length * 1 ≤ b * (2 * M) ^ L.length * (2 * M) := Nat.mul_le_mul_left _ (by omega)
  obtain ⟨h1, h2⟩ := smF_bd hM hM2 hL hl hr (by omega)
  refine ⟨h1, fun o ho => ?_⟩
  have hN : BdN (b * (2 * M) ^ L.length) (prim (redF L r)) := fun i => Nat.le_trans (natAbs_prim_le _ i) (h2 i)
  have ln : (prim (redF L r)).length = w := by rw [prim_len]; exact redF_len (fun o h => (hL o h).1) hl
  have := elim_bd (by rw [ln, (hL o ho).1]) (hL o ho).2 hN (lead (prim (redF L r)))
  refine this.sm ?_
  rw [Nat.mul_left_comm, Nat.mul_comm M, ← Nat.mul_assoc, Nat.mul_comm 2, Nat.mul_assoc] at *
  exact hb
theorem indep_cons {K : List Row} {r : Row} (hI : Indep K) (h : ¬ InS K (at_ r)) : Indep (r :: K) := fun ds hl hz => by
  cases ds with
  | nil => simp at hl
  | cons d ds =>
    have hz : ∀ i, d * at_ r i + comb ds K i = 0 := hz
    have hd : d = 0 := Classical.byContradiction fun z => h (((InS.of (lin_comb ds fun x hx => hx)).lin (InS.zero fun _ => rfl) (-1) 0 : InS K fun i => -1 * comb ds K i + 0 * (fun _ => 0) i).div d z fun i => by have := hz i; simp; omega)
    subst hd
    have := hI ds (by simpa using hl) fun i => by have := hz i; simpa using this
    intro x hx
    rcases List.mem_cons.mp hx with rfl | hx
    · rfl
    · exact this x hx
theorem addR_in {w : Nat} {L : List Row} {r : Row} (R : Red w L) (hr : r.length = w) (h : InS L (at_ r)) : addR L r = L := by
  unfold addR
  rw [if_pos]
  refine isZb_iff.mpr ?_
  have hL : ∀ o ∈ L, o.length = w ∧ ¬ isZ o := fun o ho => ⟨(R.each o ho).2, R.nz o ho⟩
  exact R.none (prim_in ((redF_in hL hr fun o ho => .mem ho).mpr h)) (R.zero hr)
theorem smR_bd {w κ B : Nat} (hB1 : 1 ≤ B) (hnum : B * (2 * (2 * κ * B) ^ κ) ^ (κ + 1) < 2 ^ big) (hM2 : (2 * κ * B) ^ κ < 2 ^ big) : ∀ {rs L K : List Row}, Red w L → K.length = L.length → Indep K → BdR B K → (∀ r ∈ K, InS L (at_ r)) → (∀ r ∈ L, InS K (at_ r)) →
    (∀ r ∈ rs, r.length = w ∧ BdN B r) → (∀ i, ((rs.take i).foldl addR L).length ≤ κ) → SmR L rs
  | [], _, _, _, _, _, _, _, _, _, _ => trivial
  | r :: rs, L, K, R, hlen, hI, hB, hKL, hLK, hrs, hcap => by
    obtain ⟨hl, hb⟩ := hrs r (by simp)
    have hk : L.length ≤ κ := hcap 0
    have mono : (2 * K.length * B) ^ K.length ≤ (2 * κ * B) ^ κ := by
      rcases Nat.eq_zero_or_pos κ with z | z
      · have : K.length = 0 := by omega
        rw [this, z]; simp
      · have b0 : 1 ≤ 2 * κ * B := Nat.mul_le_mul (show 1 ≤ 2 * κ by omega) hB1
        calc (2 * K.length * B) ^ K.length ≤ (2 * κ * B) ^ K.length := Nat.pow_le_pow_left (Nat.mul_le_mul_right _ (Nat.mul_le_mul_left _ (by omega))) _
          _ ≤ (2 * κ * B) ^ κ := Nat.pow_le_pow_right b0 (by omega)
    have M1 : 1 ≤ (2 * κ * B) ^ κ := by
      rcases Nat.eq_zero_or_pos κ with z | z
      · rw [z]; simp
      · exact Nat.pow_pos (Nat.mul_pos (by omega) hB1)
    have hLb : ∀ o ∈ L, o.length = w ∧ BdN ((2 * κ * B) ^ κ) o := fun o ho => ⟨(R.each o ho).2, fun i => Nat.le_trans (red_bd R hKL hB hB1 hI hlen o ho i) mono⟩
    have hA : SmA L r := smA_bd M1 hM2 hLb hl hb (Nat.lt_of_le_of_lt (Nat.mul_le_mul_left _ (Nat.pow_le_pow_right (by omega) (by omega))) hnum)
    refine ⟨hA, ?_⟩
    have nx : ∀ i, ((rs.take i).foldl addR (addR L r)).length ≤ κ := fun i => by have := hcap (i + 1); simpa using this
    obtain ⟨s1, s2⟩ := addR_span R hl
    by_cases hin : InS K (at_ r)
    · have e := addR_in R hl (hin.trans hKL)
      rw [e] at nx ⊢
      exact smR_bd hB1 hnum hM2 R hlen hI hB hKL hLK (fun x hx => hrs x (by simp [hx])) nx
    · have hnz : ¬ isZb (prim (redF L r)) = true := fun z => hin (by
        have e : addR L r = L := by unfold addR; rw [if_pos z]
        rw [e] at s2
        exact (s2 r (by simp)).trans hLK)
      have el : (addR L r).length = L.length + 1 := by
        unfold addR
        rw [if_neg hnz, (ins_perm _ _).length_eq]; simp
      refine smR_bd hB1 hnum hM2 (K := r :: K) (addR_red R hl) (by rw [el, List.length_cons, hlen]) (indep_cons hI hin) (fun x hx => ?_) (fun x hx => ?_) (fun x hx => ?_) (fun x hx => hrs x (by simp [hx])) nx
      · rcases List.mem_cons.mp hx with rfl | hx
        · exact hb
        · exact hB x hx
      · rcases List.mem_cons.mp hx with rfl | hx
        · exact s2 _ (by simp)
        · exact (hKL x hx).trans fun y hy => s2 y (by simp [hy])
      · refine (s1 x hx).trans fun y hy => ?_
        rcases List.mem_cons.mp hy with rfl | hy
        · exact .mem (by simp)
        · exact (hLK y hy).mono fun z hz => by simp [hz]
/-- from nothing -/
theorem smR_nil {w κ B : Nat} {rs : List Row} (hB1 : 1 ≤ B) (hnum : B * (2 * (2 * κ * B) ^ κ) ^ (κ + 1) < 2 ^ big) (hM2 : (2 * κ * B) ^ κ < 2 ^ big) (hrs : ∀ r ∈ rs, r.length = w ∧ BdN B r) (hcap : ∀ i, (redR (rs.take i)).length ≤ κ) : SmR [] rs :=
  smR_bd hB1 hnum hM2 (K := []) (Red.nil w) rfl (fun ds hl _ d hd => by
    have : ds = [] := List.eq_nil_of_length_eq_zero hl
    rw [this] at hd; simp at hd) (fun r hr => by simp at hr) (fun r hr => by simp at hr) (fun r hr => by simp at hr) hrs hcap
end RX
/-! Lists of one span, small. -/
namespace RX
theorem addR_len' (rows : List Row) (r : Row) : (addR rows r).length ≤ rows.length + 1 := by
  unfold addR
  split
  · omega
  · rw [(ins_perm _ _).length_eq]; simp
theorem fold_len : ∀ (xs L : List Row), (xs.foldl addR L).length ≤ L.length + xs.length
  | [], L => by simp
  | x :: xs, L => by have h1 := fold_len xs (addR L x); have h2 := addR_len' L x; simp only [List.foldl_cons, List.length_cons]; omega
theorem redR_le (A : List Row) : (redR A).length ≤ A.length := by
  have := fold_len A []
  rw [List.length_nil, Nat.zero_add] at this
  exact this
theorem fold_same {w : Nat} : ∀ {xs L : List Row}, Red w L → (∀ r ∈ xs, r.length = w ∧ InS L (at_ r)) → xs.foldl addR L = L
  | [], _, _, _ => rfl
  | x :: xs, L, R, h => by
    obtain ⟨h1, h2⟩ := h x (by simp)
    rw [List.foldl_cons, addR_in R h1 h2]
    exact fold_same R fun r hr => h r (by simp [hr])
/-- .. and never more than A's rows on the way -/
structure Kin2 (n : Nat) (A B : List Row) : Prop where
  kin : Kin n A B
  cap : ∀ i, (redR (B.take i)).length ≤ A.length
section
variable {n : Nat} {A : List Row} (hA : ∀ r ∈ A, r.length = n)
theorem cap_of {B : List Row} (h : B.length ≤ A.length) : ∀ i, (redR (B.take i)).length ≤ A.length := fun i => by
  have := redR_le (B.take i)
  rw [List.length_take] at this
  omega
include hA
theorem cap_app {B : List Row} (hB : ∀ r ∈ B, r.length = n ∧ InS A (at_ r)) : ∀ i, (redR ((A ++ B).take i)).length ≤ A.length := fun i => by
  obtain ⟨RA, a1, a2⟩ := fold_span (Red.nil n) hA
  by_cases h : i ≤ A.length
  · rw [List.take_append_of_le_length h]
    have := redR_le (A.take i)
    rw [List.length_take] at this
    omega
  · have e : (A ++ B).take i = A ++ B.take (i - A.length) := by rw [List.take_append, List.take_of_length_le (by omega)]
    rw [e]
    unfold redR
    rw [List.foldl_append, fold_same RA fun r hr => ⟨(hB r (List.mem_of_mem_take hr)).1, (hB r (List.mem_of_mem_take hr)).2.trans fun x hx => a2 x (by simp [hx])⟩]
    exact redR_le A
theorem kin2_perm {B : List Row} (h : B.Perm A) : Kin2 n A B := ⟨kin_perm hA h, cap_of (by rw [h.length_eq]; omega)⟩
theorem kin2_double : Kin2 n A (A ++ A) := ⟨kin_double hA, cap_app hA fun r hr => ⟨hA r hr, .mem hr⟩⟩
theorem kin2_zero : Kin2 n A (A ++ [List.replicate n 0]) := ⟨kin_zero hA, cap_app hA fun r hr => ⟨(kin_zero hA).len r (by simp at hr; simp [hr]), (kin_zero hA).fro r (by simp at hr; simp [hr])⟩⟩
theorem kin2_scale {c : Int} (hc : c ≠ 0) : Kin2 n A (A.map fun r => r.map (c * ·)) := ⟨kin_scale hA hc, cap_of (by simp)⟩
theorem kin2_first {c : Int} (hc : c ≠ 0) : Kin2 n A ((A.take 1).map (fun r => r.map (c * ·)) ++ A.drop 1) := ⟨kin_first hA hc, cap_of (by simp; omega)⟩
theorem kin2_add {a t : Nat} (ha : a < A.length) (ht : t < A.length) (ne : a ≠ t) (c : Int) : Kin2 n A (A.take a ++ [List.zipWith (fun x y => x + c * y) A[a] A[t]] ++ A.drop (a + 1)) := ⟨kin_add hA ha ht ne c, cap_of (by simp; omega)⟩
theorem kin2_self : Kin2 n A A := kin2_perm hA (.refl _)
theorem kin2_red : Kin2 n A (redR A) := by
  obtain ⟨RA, a1, a2⟩ := fold_span (Red.nil n) hA
  exact ⟨⟨fun r hr => (RA.each r hr).2, by have := redR_le A; omega, fun r hr => a2 r (by simp [hr]), fun r hr => (a1 r hr).mono fun x hx => by simpa using hx⟩, cap_of (redR_le A)⟩
end
theorem ten60 : (10 : Nat) ^ 60 ≤ 2 ^ 200 := by decide +kernel
theorem num6 : 2 ^ 200 * (2 * (2 * 6 * 2 ^ 200) ^ 6) ^ (6 + 1) < 2 ^ big := by unfold big; decide +kernel
theorem num6' : (2 * 6 * 2 ^ 200) ^ 6 < 2 ^ big := by unfold big; decide +kernel
theorem bdN_of {r : Row} {B : Nat} (h : ∀ x ∈ r, x.natAbs ≤ B) : BdN B r := fun i => by
  by_cases hi : i < r.length
  · exact h _ (mem_at hi)
  · rw [at_ge (by omega)]; simp
/-- small enough all along -/
theorem smR_kin {n : Nat} {A B : List Row} (h6 : A.length ≤ 6) (K : Kin2 n A B) (hb : ∀ r ∈ B, ∀ x ∈ r, x.natAbs < 10 ^ 60) : SmR [] B :=
  smR_nil (w := n) (κ := 6) (B := 2 ^ 200) (Nat.pow_pos (by decide)) num6 num6' (fun r hr => ⟨K.kin.len r hr, bdN_of fun x hx => Nat.le_of_lt (Nat.lt_of_lt_of_le (hb r hr x hx) ten60)⟩) fun i => Nat.le_trans (K.cap i) h6
end RX
/-! Kernels: for each place that begins no reduced row, a row whose products with the rows are 0. -/
namespace RX
theorem at_set {v : Row} {i j : Nat} {x : Int} (h : i < v.length) : at_ (v.set i x) j = if j = i then x else at_ v j := by
  unfold at_
  simp only [List.getD_eq_getElem?_getD, List.getElem?_set]
  by_cases e : i = j
  · subst e; simp [h]
  · simp [e, Ne.symm e]
theorem at_zeros (w i : Nat) : at_ (List.replicate w 0) i = 0 := by
  unfold at_
  simp only [List.getD_eq_getElem?_getD, List.getElem?_replicate]
  split <;> rfl
/-- numbers put at the leads of rows -/
def fs (g : Row → Int) : List Row → Row → Row
  | [], v => v
  | r :: L, v => fs g L (v.set (lead r) (g r))
theorem fs_len (g : Row → Int) : ∀ (L : List Row) (v : Row), (fs g L v).length = v.length
  | [], v => rfl
  | r :: L, v => by show (fs g L (v.set (lead r) (g r))).length = v.length; rw [fs_len g L]; simp
theorem fs_off {g : Row → Int} {i : Nat} : ∀ {L : List Row} {v : Row}, (∀ r ∈ L, lead r ≠ i) → at_ (fs g L v) i = at_ v i
  | [], v, _ => rfl
  | r :: L, v, h => by
    show at_ (fs g L (v.set (lead r) (g r))) i = _
    rw [fs_off (L := L) fun s hs => h s (by simp [hs])]
    unfold at_
    simp only [List.getD_eq_getElem?_getD]
    rw [List.getElem?_set_ne (h r (by simp))]
theorem fs_at {g : Row → Int} {r : Row} : ∀ {L : List Row} {v : Row}, L.Pairwise (fun r s => lead r < lead s) → r ∈ L → lead r < v.length → at_ (fs g L v) (lead r) = g r
  | s :: L, v, pw, hr, hl => by
    have p := List.pairwise_cons.mp pw
    show at_ (fs g L (v.set (lead s) (g s))) (lead r) = _
    rcases List.mem_cons.mp hr with rfl | hr
    · rw [fs_off fun t ht => Ne.symm (Nat.ne_of_lt (p.1 t ht)), at_set hl, if_pos rfl]
    · exact fs_at p.2 hr (by simpa using hl)
/-- the program's factor -/
def kf (L : List Row) (f : Nat) : Int := L.foldl (fun c r => if at_ r f ≠ 0 then c * leadV r / (Int.gcd c (leadV r) : Nat) else c) 1
/-- the law's -/
def sh (L : List Row) : Int := L.foldl (fun c r => c * leadV r) 1
def zf (w f : Nat) (c : Int) : Row := (List.replicate w 0).set f c
def kv (w f : Nat) (c : Int) (L : List Row) : Row := fs (fun r => -at_ r f * c / leadV r) L (zf w f c)
def sv (w f : Nat) (c : Int) (L : List Row) : Row := fs (fun r => -at_ r f * (c / leadV r)) L (zf w f c)
theorem lcm_step {c l : Int} (hc : 0 < c) (hl : 0 < l) : 0 < c * l / (Int.gcd c l : Nat) ∧ c ∣ c * l / (Int.gcd c l : Nat) ∧ l ∣ c * l / (Int.gcd c l : Nat) ∧ c * l / (Int.gcd c l : Nat) ≤ c * l := by
  have g0 : (0 : Int) < (Int.gcd c l : Nat) := by
    have : 0 < Int.gcd c l := Int.gcd_pos_iff.mpr (.inl (by omega))
    omega
  have h1 : c * l / (Int.gcd c l : Nat) = c * (l / (Int.gcd c l : Nat)) := Int.mul_ediv_assoc c (Int.gcd_dvd_right c l)
  have h2 : c * l / (Int.gcd c l : Nat) = c / (Int.gcd c l : Nat) * l := Int.mul_ediv_assoc' l (Int.gcd_dvd_left c l)
  have h3 : l / (Int.gcd c l : Nat) * (Int.gcd c l : Nat) = l := Int.ediv_mul_cancel (Int.gcd_dvd_right c l)
  have hp : 0 < l / (Int.gcd c l : Nat) := by
    rcases Int.lt_trichotomy 0 (l / (Int.gcd c l : Nat)) with q | q | q
    · exact q
    · rw [← q, Int.zero_mul] at h3; omega
    · have := Int.mul_neg_of_neg_of_pos q g0; omega
  refine ⟨by rw [h1]; exact Int.mul_pos hc hp, by rw [h1]; exact ⟨_, rfl⟩, by rw [h2]; exact ⟨_, Int.mul_comm _ _⟩, ?_⟩
  exact Int.ediv_le_self _ (Int.le_of_lt (Int.mul_pos hc hl))
theorem kf_fold {f : Nat} : ∀ {L : List Row} {c : Int}, (∀ r ∈ L, leadV r > 0) → 0 < c →
    0 < L.foldl (fun c r => if at_ r f ≠ 0 then c * leadV r / (Int.gcd c (leadV r) : Nat) else c) c ∧ c ∣ L.foldl (fun c r => if at_ r f ≠ 0 then c * leadV r / (Int.gcd c (leadV r) : Nat) else c) c ∧ ∀ r ∈ L, at_ r f ≠ 0 → leadV r ∣ L.foldl (fun c r => if at_ r f ≠ 0 then c * leadV r / (Int.gcd c (leadV r) : Nat) else c) c
  | [], c, _, hc => ⟨hc, ⟨1, by simp⟩, fun r h => by simp at h⟩
  | s :: L, c, hL, hc => by
    have hs := hL s (by simp)
    obtain ⟨a1, a2, a3, _⟩ := lcm_step hc hs
    rw [List.foldl_cons]
    by_cases h0 : at_ s f ≠ 0
    · rw [if_pos h0]
      obtain ⟨b1, b2, b3⟩ := kf_fold (f := f) (L := L) (fun r hr => hL r (by simp [hr])) a1
      refine ⟨b1, Int.dvd_trans a2 b2, fun r hr hf => ?_⟩
      rcases List.mem_cons.mp hr with rfl | hr
      · exact Int.dvd_trans a3 b2
      · exact b3 r hr hf
    · rw [if_neg h0]
      obtain ⟨b1, b2, b3⟩ := kf_fold (f := f) (L := L) (fun r hr => hL r (by simp [hr])) hc
      refine ⟨b1, b2, fun r hr hf => ?_⟩
      rcases List.mem_cons.mp hr with rfl | hr
      · exact absurd hf h0
      · exact b3 r hr hf
theorem sh_fold : ∀ {L : List Row} {c : Int}, (∀ r ∈ L, leadV r > 0) → 0 < c → 0 < L.foldl (fun c r => c * leadV r) c ∧ c ∣ L.foldl (fun c r => c * leadV r) c ∧ ∀ r ∈ L, leadV r ∣ L.foldl (fun c r => c * leadV r) c
  | [], c, _, hc => ⟨hc, ⟨1, by simp⟩, fun r h => by simp at h⟩
  | s :: L, c, hL, hc => by
    have hs := hL s (by simp)
    rw [List.foldl_cons]
    obtain ⟨b1, b2, b3⟩ := sh_fold (L := L) (c := c * leadV s) (fun r hr => hL r (by simp [hr])) (Int.mul_pos hc hs)
    refine ⟨b1, Int.dvd_trans ⟨leadV s, rfl⟩ b2, fun r hr => ?_⟩
    rcases List.mem_cons.mp hr with rfl | hr
    · exact Int.dvd_trans ⟨c, Int.mul_comm _ _⟩ b2
    · exact b3 r hr
/-! ### sums over places -/
def sumN (t : Nat → Int) : Nat → Int
  | 0 => 0
  | n + 1 => sumN t n + t n
theorem sumN_congr {t u : Nat → Int} : ∀ {n : Nat}, (∀ i, i < n → t i = u i) → sumN t n = sumN u n
  | 0, _ => rfl
  | n + 1, h => by show sumN t n + t n = sumN u n + u n; rw [sumN_congr fun i hi => h i (by omega), h n (by omega)]
theorem sumN_zero {t : Nat → Int} : ∀ {n : Nat}, (∀ i, i < n → t i = 0) → sumN t n = 0
  | 0, _ => rfl
  | n + 1, h => by show sumN t n + t n = 0; rw [sumN_zero fun i hi => h i (by omega), h n (by omega)]; rfl
theorem sumN_add (t u : Nat → Int) : ∀ n, sumN (fun i => t i + u i) n = sumN t n + sumN u n
  | 0 => rfl
  | n + 1 => by show sumN _ n + (t n + u n) = _ + t n + (_ + u n); rw [sumN_add t u n]; omega
theorem sumN_smul (c : Int) (t : Nat → Int) : ∀ n, sumN (fun i => c * t i) n = c * sumN t n
  | 0 => by simp [sumN]
  | n + 1 => by show sumN _ n + c * t n = c * (_ + t n); rw [sumN_smul c t n, Int.mul_add]
theorem sumN_two {t : Nat → Int} {a b : Nat} (ne : a ≠ b) : ∀ {n : Nat}, (∀ i, i < n → i ≠ a → i ≠ b → t i = 0) → sumN t n = (if a < n then t a else 0) + (if b < n then t b else 0)
  | 0, _ => by simp [sumN]
  | n + 1, h => by
    show sumN t n + t n = _
    rw [sumN_two ne fun i hi => h i (by omega)]
    have e1 : ∀ x : Nat, (if x < n + 1 then t x else 0) = (if x < n then t x else 0) + (if n = x then t n else 0) := fun x => by
      by_cases q : n = x
      · subst q; simp
      · have : (x < n) = (x < n + 1) := propext ⟨fun _ => by omega, fun _ => by omega⟩
        simp only [this, if_neg q]; omega
    rw [e1 a, e1 b]
    have e2 : t n = (if n = a then t n else 0) + (if n = b then t n else 0) := by
      by_cases ha : n = a
      · rw [if_pos ha, if_neg fun hb => ne (ha.symm.trans hb)]; omega
      · by_cases hb : n = b
        · rw [if_neg ha, if_pos hb]; omega
        · rw [h n (by omega) ha hb]; simp
    omega
theorem sumN_shift (t : Nat → Int) : ∀ n, sumN t (n + 1) = t 0 + sumN (fun i => t (i + 1)) n
  | 0 => by simp [sumN]
  | n + 1 => by
    show sumN t (n + 1) + t (n + 1) = t 0 + (sumN (fun i => t (i + 1)) n + t (n + 1))
    rw [sumN_shift t n]; omega
def dot (u v : Row) : Int := (List.zipWith (· * ·) u v).sum
theorem dot_sumN : ∀ {u v : Row}, u.length = v.length → dot u v = sumN (fun i => at_ u i * at_ v i) u.length
  | [], [], _ => rfl
  | x :: u, y :: v, h => by
    have := dot_sumN (u := u) (v := v) (by simpa using h)
    show x * y + dot u v = sumN _ (u.length + 1)
    rw [sumN_shift, this]; rfl
theorem orth_lin {R : List Row} {k : Nat → Int} {w : Nat} (h : ∀ r ∈ R, sumN (fun i => k i * at_ r i) w = 0) {f : Nat → Int} (hf : Lin R f) : sumN (fun i => k i * f i) w = 0 := by
  induction hf with
  | zero => exact sumN_zero fun i _ => by simp
  | mem hm => exact h _ hm
  | add _ _ a b => rw [← Int.add_zero (0 : Int)]; rw [sumN_congr (u := fun i => k i * _ + k i * _) fun i _ => Int.mul_add _ _ _, sumN_add, a, b]
  | smul c _ a => rw [sumN_congr (u := fun i => c * (k i * _)) fun i _ => Int.mul_left_comm _ _ _, sumN_smul, a, Int.mul_zero]
theorem orth_in {R : List Row} {k : Nat → Int} {w : Nat} (h : ∀ r ∈ R, sumN (fun i => k i * at_ r i) w = 0) {f : Nat → Int} (hf : InS R f) : sumN (fun i => k i * f i) w = 0 := by
  obtain ⟨q, q0, hl⟩ := hf
  have := orth_lin h hl
  rw [sumN_congr (u := fun i => q * (k i * f i)) fun i _ => Int.mul_left_comm _ _ _, sumN_smul] at this
  exact (Int.mul_eq_zero.mp this).resolve_left q0
section
variable {w f : Nat} {L : List Row}
def Free (L : List Row) (f : Nat) : Prop := ∀ r ∈ L, lead r ≠ f
theorem zf_at (hf : f < w) (c : Int) (i : Nat) : at_ (zf w f c) i = if i = f then c else 0 := by
  unfold zf
  rw [at_set (by simpa using hf), at_zeros]
theorem kv_len (w f : Nat) (c : Int) (L : List Row) : (kv w f c L).length = w := by unfold kv; rw [fs_len]; simp [zf]
theorem sv_len (w f : Nat) (c : Int) (L : List Row) : (sv w f c L).length = w := by unfold sv; rw [fs_len]; simp [zf]
theorem fs_free {g : Row → Int} {c : Int} (hf : f < w) (h : Free L f) : at_ (fs g L (zf w f c)) f = c := by
  rw [fs_off h, zf_at hf, if_pos rfl]
theorem fs_lead (R : Red w L) {g : Row → Int} {c : Int} {r : Row} (hr : r ∈ L) : at_ (fs g L (zf w f c)) (lead r) = g r :=
  fs_at R.lt hr (by have := lead_lt (R.nz r hr); rw [(R.each r hr).2] at this; simpa [zf] using this)
theorem fs_other {g : Row → Int} {c : Int} (hf : f < w) {i : Nat} (h : ∀ r ∈ L, lead r ≠ i) (hi : i ≠ f) : at_ (fs g L (zf w f c)) i = 0 := by
  rw [fs_off h, zf_at hf, if_neg hi]
theorem Red.lv (R : Red w L) : ∀ r ∈ L, leadV r > 0 := fun r hr => (R.each r hr).1.2
theorem kf_pos (R : Red w L) (f : Nat) : 0 < kf L f := (kf_fold R.lv (by decide)).1
theorem kf_dvd (R : Red w L) {r : Row} (hr : r ∈ L) : leadV r ∣ at_ r f * kf L f := by
  by_cases h : at_ r f = 0
  · rw [h, Int.zero_mul]; exact ⟨0, by simp⟩
  · exact Int.dvd_trans ((kf_fold (f := f) R.lv (by decide : (0 : Int) < 1)).2.2 r hr h) ⟨at_ r f, Int.mul_comm _ _⟩
theorem kv_lead (R : Red w L) {r : Row} (hr : r ∈ L) : leadV r * at_ (kv w f (kf L f) L) (lead r) = -at_ r f * kf L f := by
  unfold kv
  rw [fs_lead R hr, Int.mul_comm]
  exact Int.ediv_mul_cancel (by rw [Int.neg_mul]; exact Int.dvd_neg.mpr (kf_dvd R hr))
theorem kv_free (hf : f < w) (h : Free L f) : at_ (kv w f (kf L f) L) f = kf L f := fs_free hf h
theorem kv_orth (R : Red w L) (hf : f < w) (h : Free L f) : ∀ r ∈ L, sumN (fun i => at_ (kv w f (kf L f) L) i * at_ r i) w = 0 := fun r hr => by
  have lw : lead r < w := by have := lead_lt (R.nz r hr); rwa [(R.each r hr).2] at this
  rw [sumN_two (a := f) (b := lead r) (Ne.symm (h r hr)) fun i hi n1 n2 => ?_, if_pos hf, if_pos lw, kv_free hf h]
  · have := kv_lead (f := f) R hr
    have e : at_ r (lead r) = leadV r := rfl
    rw [e, Int.mul_comm (at_ (kv w f (kf L f) L) (lead r)), this, Int.neg_mul, Int.mul_comm (kf L f)]; omega
  · by_cases q : ∃ s ∈ L, lead s = i
    · obtain ⟨s, hs, rfl⟩ := q
      rw [R.off hr hs (Ne.symm n2), Int.mul_zero]
    · have : at_ (kv w f (kf L f) L) i = 0 := fs_other hf (fun s hs e => q ⟨s, hs, e⟩) n1
      rw [this, Int.zero_mul]
theorem kv_nz (R : Red w L) (hf : f < w) (h : Free L f) : ¬ isZ (kv w f (kf L f) L) := fun z => by
  have := z f
  rw [kv_free hf h] at this
  have := kf_pos R f
  omega
/-- the program's row and the law's -/
theorem prim_kv (R : Red w L) (hf : f < w) (h : Free L f) : prim (kv w f (kf L f) L) = prim (sv w f (sh L) L) := by
  obtain ⟨s1, _, s3⟩ := sh_fold (L := L) (c := 1) R.lv (by decide)
  have k1 := kf_pos R f
  have s1 : 0 < sh L := s1
  refine prim_line (by rw [kv_len, sv_len]) (a := sh L) (b := kf L f) (by omega) (by omega) fun i => ?_
  by_cases q : ∃ s ∈ L, lead s = i
  · obtain ⟨s, hs, rfl⟩ := q
    have e1 := kv_lead (f := f) R hs
    have e2 : at_ (sv w f (sh L) L) (lead s) = -at_ s f * (sh L / leadV s) := fs_lead R hs
    have e3 : sh L / leadV s * leadV s = sh L := Int.ediv_mul_cancel (s3 s hs)
    rw [e2]
    generalize sh L / leadV s = m at *
    calc sh L * at_ (kv w f (kf L f) L) (lead s) = m * (leadV s * at_ (kv w f (kf L f) L) (lead s)) := by rw [← e3, Int.mul_assoc]
      _ = kf L f * (-at_ s f * m) := by rw [e1, Int.mul_left_comm, Int.mul_comm m, ← Int.mul_assoc]; rw [Int.mul_assoc, Int.mul_left_comm]
  · have q : ∀ s ∈ L, lead s ≠ i := fun s hs e => q ⟨s, hs, e⟩
    by_cases e : i = f
    · subst e
      have e1 : at_ (sv w i (sh L) L) i = sh L := fs_free hf h
      rw [kv_free hf h, e1, Int.mul_comm]
    · have e1 : at_ (kv w f (kf L f) L) i = 0 := fs_other hf q e
      have e2 : at_ (sv w f (sh L) L) i = 0 := fs_other hf q e
      rw [e1, e2, Int.mul_zero, Int.mul_zero]
end
def freeB (L : List Row) (f : Nat) : Bool := L.all fun r => decide (lead r ≠ f)
theorem freeB_iff {L : List Row} {f : Nat} : freeB L f = true ↔ Free L f := by unfold freeB Free; simp
def frees (L : List Row) (w : Nat) : List Nat := (List.range w).filter (freeB L)
def kerR (L : List Row) (w : Nat) : List Row := (frees L w).map fun f => prim (kv w f (kf L f) L)
def solR (L : List Row) (w : Nat) : List Row := (frees L w).map fun f => prim (sv w f (sh L) L)
theorem mem_frees {L : List Row} {w f : Nat} : f ∈ frees L w ↔ f < w ∧ Free L f := by
  unfold frees
  rw [List.mem_filter, List.mem_range, freeB_iff]
theorem ker_sol {w : Nat} {L : List Row} (R : Red w L) : kerR L w = solR L w := List.map_congr_left fun f hf => by
  obtain ⟨a, b⟩ := mem_frees.mp hf
  exact prim_kv R a b
theorem kerR_len {L : List Row} {w : Nat} : ∀ k ∈ kerR L w, k.length = w := fun k hk => by
  obtain ⟨f, _, rfl⟩ := List.mem_map.mp hk
  rw [prim_len, kv_len]
theorem redR_red {w : Nat} {A : List Row} (hA : ∀ r ∈ A, r.length = w) : Red w (redR A) := (fold_span (Red.nil w) hA).1
theorem redR_in {w : Nat} {A : List Row} (hA : ∀ r ∈ A, r.length = w) : ∀ r ∈ A, InS (redR A) (at_ r) := fun r hr => (fold_span (Red.nil w) hA).2.2 r (by simp [hr])
theorem in_redR {w : Nat} {A : List Row} (hA : ∀ r ∈ A, r.length = w) : ∀ r ∈ redR A, InS A (at_ r) := fun r hr => by have := (fold_span (Red.nil w) hA).2.1 r hr; rwa [List.append_nil] at this
theorem kerR_orth0 {w : Nat} {L : List Row} (R : Red w L) {k : Row} (hk : k ∈ kerR L w) : ∀ r ∈ L, sumN (fun i => at_ k i * at_ r i) w = 0 := fun r hr => by
  obtain ⟨f, hf, rfl⟩ := List.mem_map.mp hk
  obtain ⟨a, b⟩ := mem_frees.mp hf
  have nz := kv_nz R a b
  have h := kv_orth R a b r hr
  have e : sumN (fun i => at_ (kv w f (kf L f) L) i * at_ r i) w = (sgn (leadV (kv w f (kf L f) L)) * gcdL (kv w f (kf L f) L) : Int) * sumN (fun i => at_ (prim (kv w f (kf L f) L)) i * at_ r i) w := by
    rw [← sumN_smul]
    exact sumN_congr fun i _ => by rw [← prim_mul' nz i, Int.mul_assoc]
  rw [e] at h
  refine (Int.mul_eq_zero.mp h).resolve_left fun z => ?_
  rcases Int.mul_eq_zero.mp z with z | z
  · exact sgn_ne _ z
  · exact gcd_pos nz (by omega)
theorem kerR_orth {w : Nat} {A : List Row} (hA : ∀ r ∈ A, r.length = w) {k : Row} (hk : k ∈ kerR (redR A) w) : ∀ r ∈ A, dot k r = 0 := fun r hr => by
  have kl := kerR_len k hk
  rw [dot_sumN (by rw [kl, hA r hr]), kl]
  exact orth_in (kerR_orth0 (redR_red hA) hk) (redR_in hA r hr)
end RX
/-! The kernel's rows and what the reduction makes of them are small: each is one of few equations' only solution. -/
namespace RX
theorem small_ds {K : List Row} {B : Nat} (hB : BdR B K) (hB1 : 1 ≤ B) (ps : List Nat) (hps : ps.length < K.length) :
    ∃ ds : List Int, ds.length = K.length ∧ (∃ d ∈ ds, d ≠ 0) ∧ (∀ p ∈ ps, comb ds K p = 0) ∧ ∀ d ∈ ds, d.natAbs ≤ (2 * K.length * B) ^ (K.length - 1) := by
  generalize hk : K.length = k at *
  generalize hq : 2 * k * B = q
  have hq1 : 1 ≤ q := by
    rw [← hq]
    have : 1 ≤ 2 * k := by omega
    exact Nat.mul_le_mul this hB1
  generalize hN : q ^ (k - 1) = N
  have hbd : ∀ n i, (comb (digs (N + 1) k n) K i).natAbs ≤ k * (N * B) := fun n i => by
    have := comb_bd (N := N) (ds := digs (N + 1) k n) i hB fun d hd => by have := digs_bd (m := N + 1) (by omega) hd; omega
    rwa [hk] at this
  generalize hC : k * (N * B) = C at *
  have cnt : (2 * C + 1) ^ ps.length < (N + 1) ^ k := by
    have h1 : 2 * C + 1 ≤ (N + 1) * q := by
      have : (N + 1) * q = 2 * C + q := by
        rw [← hC, ← hq, Nat.add_mul, Nat.one_mul]
        congr 1
        calc N * (2 * k * B) = 2 * k * (N * B) := by rw [Nat.mul_left_comm]
          _ = 2 * (k * (N * B)) := by rw [Nat.mul_assoc]
      omega
    calc (2 * C + 1) ^ ps.length ≤ (2 * C + 1) ^ (k - 1) := Nat.pow_le_pow_right (by omega) (by omega)
      _ ≤ ((N + 1) * q) ^ (k - 1) := Nat.pow_le_pow_left h1 _
      _ = (N + 1) ^ (k - 1) * N := by rw [Nat.mul_pow, hN]
      _ < (N + 1) ^ (k - 1) * (N + 1) := Nat.mul_lt_mul_of_pos_left (by omega) (Nat.pow_pos (by omega))
      _ = (N + 1) ^ k := by rw [← Nat.pow_succ, ← Nat.succ_eq_add_one]; congr 1; omega
  obtain ⟨a, b, h1, h2, h3⟩ := pigeon _ _ (fun n => enc C (comb (digs (N + 1) k n) K) ps) cnt fun n _ => enc_lt (hbd n) ps
  have heq := enc_inj (hbd a) (hbd b) h3
  have la : (digs (N + 1) k a).length = K.length := by rw [digs_len, hk]
  have lb : (digs (N + 1) k b).length = K.length := by rw [digs_len, hk]
  refine ⟨List.zipWith (· - ·) (digs (N + 1) k a) (digs (N + 1) k b), by rw [List.length_zipWith, la, lb, hk]; simp, ?_, fun p hp => by rw [comb_sub p la lb, heq p hp]; omega, fun d hd => ?_⟩
  · apply Classical.byContradiction
    intro hn
    have : digs (N + 1) k a = digs (N + 1) k b := by
      apply List.ext_getElem (by rw [la, lb])
      intro i hi hi'
      have : ¬ ((digs (N + 1) k a)[i] - (digs (N + 1) k b)[i]) ≠ 0 := fun z => hn ⟨_, List.mem_iff_getElem.mpr ⟨i, by rw [List.length_zipWith]; omega, by rw [List.getElem_zipWith]⟩, z⟩
      omega
    have := digs_inj (m := N + 1) (by omega) (k := k) (Nat.lt_trans h1 h2) h2 this
    omega
  · obtain ⟨i, hi, rfl⟩ := List.getElem_of_mem hd
    rw [List.length_zipWith] at hi
    rw [List.getElem_zipWith]
    have x1 := digs_bd (m := N + 1) (by omega) (List.getElem_mem (by omega : i < (digs (N + 1) k a).length))
    have x2 := digs_bd (m := N + 1) (by omega) (List.getElem_mem (by omega : i < (digs (N + 1) k b).length))
    omega
theorem comb_sumN (p : Nat) : ∀ {K : List Row} {ds : List Int}, ds.length = K.length → comb ds K p = sumN (fun j => at_ ds j * at_ (K.getD j []) p) K.length
  | [], [], _ => rfl
  | r :: K, d :: ds, h => by
    show d * at_ r p + comb ds K p = sumN _ (K.length + 1)
    rw [sumN_shift, comb_sumN p (by simpa using h)]; rfl
/-- fewer equations than unknowns have a small solution -/
theorem siegel {n B : Nat} (E : List (Nat → Int)) (hE : E.length < n) (hB1 : 1 ≤ B) (hB : ∀ e ∈ E, ∀ j, (e j).natAbs ≤ B) :
    ∃ x : Row, x.length = n ∧ ¬ isZ x ∧ (∀ e ∈ E, sumN (fun i => at_ x i * e i) n = 0) ∧ BdN ((2 * n * B) ^ (n - 1)) x := by
  have hKl : ((List.range n).map fun j => E.map fun e => e j).length = n := by simp
  have gK : ∀ j p, at_ (((List.range n).map fun j => E.map fun e => e j).getD j []) p = if j < n then (E.map fun e => e j).getD p 0 else 0 := fun j p => by
    by_cases hj : j < n
    · simp [hj, at_]
    · simp [hj, at_]
  obtain ⟨ds, h1, ⟨d, hd, d0⟩, h3, h4⟩ := small_ds (K := (List.range n).map fun j => E.map fun e => e j) (B := B) (fun r hr i => by
    obtain ⟨j, _, rfl⟩ := List.mem_map.mp hr
    by_cases hi : i < E.length
    · have : at_ (E.map fun e => e j) i = E[i] j := by rw [at_eq_get (by simpa using hi)]; simp
      rw [this]; exact hB _ (List.getElem_mem hi) j
    · rw [at_ge (by simpa using hi)]; simp) hB1 (List.range E.length) (by rw [hKl]; simpa using hE)
  rw [hKl] at h1 h4
  refine ⟨ds, h1, fun z => d0 ?_, fun e he => ?_, fun i => ?_⟩
  · exact isZ_iff.mp z d hd
  · obtain ⟨p, hp, rfl⟩ := List.getElem_of_mem he
    have := h3 p (List.mem_range.mpr hp)
    rw [comb_sumN p (by rw [h1, hKl]), hKl] at this
    rw [← this]
    refine sumN_congr fun j hj => ?_
    rw [gK, if_pos hj]
    congr 1
    simp [hp]
  · by_cases hi : i < ds.length
    · exact h4 _ (mem_at hi)
    · rw [at_ge (by omega)]; simp
theorem pin_bd {n B : Nat} {r : Row} (hr : IsPrim r) (hl : r.length = n) (E : List (Nat → Int)) (hE : E.length < n) (hB1 : 1 ≤ B) (hB : ∀ e ∈ E, ∀ j, (e j).natAbs ≤ B)
    (pin : ∀ x : Row, x.length = n → (∀ e ∈ E, sumN (fun i => at_ x i * e i) n = 0) → ∃ a b : Int, a ≠ 0 ∧ ∀ i, a * at_ x i = b * at_ r i) : BdN ((2 * n * B) ^ (n - 1)) r := by
  obtain ⟨x, x1, x2, x3, x4⟩ := siegel E hE hB1 hB
  obtain ⟨a, b, a0, h⟩ := pin x x1 x3
  have b0 : b ≠ 0 := fun z => x2 fun i => by
    have := h i
    rw [z, Int.zero_mul] at this
    exact (Int.mul_eq_zero.mp this).resolve_left a0
  have e := prim_line (by rw [x1, hl]) a0 b0 h
  rw [prim_of_isPrim hr] at e
  intro i
  have := natAbs_prim_le x i
  rw [e] at this
  exact Nat.le_trans this (x4 i)
/-- as many of the rows as there are reduced ones span these -/
theorem kset {w : Nat} : ∀ {rs L K : List Row}, Red w L → K.length = L.length → (∀ r ∈ L, InS K (at_ r)) → (∀ r ∈ rs, r.length = w) → ∃ K' : List Row, (∀ x ∈ K', x ∈ rs ∨ x ∈ K) ∧ K'.length = (rs.foldl addR L).length ∧ ∀ r ∈ rs.foldl addR L, InS K' (at_ r)
  | [], L, K, _, h1, h2, _ => ⟨K, fun x h => .inr h, h1, h2⟩
  | r :: rs, L, K, R, h1, h2, h3 => by
    have hl := h3 r (by simp)
    obtain ⟨s1, s2⟩ := addR_span R hl
    rw [List.foldl_cons]
    by_cases hz : isZb (prim (redF L r)) = true
    · have e : addR L r = L := by unfold addR; rw [if_pos hz]
      rw [e]
      obtain ⟨K', a1, a2, a3⟩ := kset R h1 h2 fun x hx => h3 x (List.mem_cons_of_mem _ hx)
      exact ⟨K', fun x hx => (a1 x hx).imp (fun h => by simp [h]) id, a2, a3⟩
    · have el : (addR L r).length = L.length + 1 := by
        unfold addR
        rw [if_neg hz, (ins_perm _ _).length_eq]; simp
      obtain ⟨K', a1, a2, a3⟩ := kset (K := r :: K) (addR_red R hl) (by rw [el, List.length_cons, h1]) (fun x hx => (s1 x hx).trans fun y hy => by
        rcases List.mem_cons.mp hy with rfl | hy
        · exact .mem (by simp)
        · exact (h2 y hy).mono fun z hz => by simp [hz]) fun x hx => h3 x (List.mem_cons_of_mem _ hx)
      refine ⟨K', fun x hx => ?_, a2, a3⟩
      rcases a1 x hx with q | q
      · exact .inl (by simp [q])
      · rcases List.mem_cons.mp q with rfl | q
        · exact .inl (by simp)
        · exact .inr q
section
variable {w : Nat} {L : List Row}
abbrev kr (L : List Row) (w f : Nat) : Row := prim (kv w f (kf L f) L)
theorem kv_sv (R : Red w L) {f : Nat} (hf : f < w) (h : Free L f) (i : Nat) : sh L * at_ (kv w f (kf L f) L) i = kf L f * at_ (sv w f (sh L) L) i := by
  obtain ⟨s1, _, s3⟩ := sh_fold (L := L) (c := 1) R.lv (by decide)
  by_cases q : ∃ s ∈ L, lead s = i
  · obtain ⟨s, hs, rfl⟩ := q
    have e1 := kv_lead (f := f) R hs
    have e2 : at_ (sv w f (sh L) L) (lead s) = -at_ s f * (sh L / leadV s) := fs_lead R hs
    have e3 : sh L / leadV s * leadV s = sh L := Int.ediv_mul_cancel (s3 s hs)
    rw [e2]
    generalize sh L / leadV s = m at *
    calc sh L * at_ (kv w f (kf L f) L) (lead s) = m * (leadV s * at_ (kv w f (kf L f) L) (lead s)) := by rw [← e3, Int.mul_assoc]
      _ = kf L f * (-at_ s f * m) := by rw [e1, Int.mul_left_comm, Int.mul_comm m, ← Int.mul_assoc]; rw [Int.mul_assoc, Int.mul_left_comm]
  · have q : ∀ s ∈ L, lead s ≠ i := fun s hs e => q ⟨s, hs, e⟩
    by_cases e : i = f
    · subst e
      have e1 : at_ (sv w i (sh L) L) i = sh L := fs_free hf h
      rw [kv_free hf h, e1, Int.mul_comm]
    · have e1 : at_ (kv w f (kf L f) L) i = 0 := fs_other hf q e
      have e2 : at_ (sv w f (sh L) L) i = 0 := fs_other hf q e
      rw [e1, e2, Int.mul_zero, Int.mul_zero]
theorem sh_pos (R : Red w L) : 0 < sh L := (sh_fold (L := L) (c := 1) R.lv (by decide)).1
theorem sv_orth (R : Red w L) {f : Nat} (hf : f < w) (h : Free L f) : ∀ r ∈ L, sumN (fun i => at_ (sv w f (sh L) L) i * at_ r i) w = 0 := fun r hr => by
  have h1 := kv_orth R hf h r hr
  have h2 : kf L f * sumN (fun i => at_ (sv w f (sh L) L) i * at_ r i) w = sh L * sumN (fun i => at_ (kv w f (kf L f) L) i * at_ r i) w := by
    rw [← sumN_smul, ← sumN_smul]
    exact sumN_congr fun i _ => by rw [← Int.mul_assoc, ← Int.mul_assoc, kv_sv R hf h]
  rw [h1, Int.mul_zero] at h2
  have := kf_pos R f
  exact (Int.mul_eq_zero.mp h2).resolve_left (by omega)
/-- what has the product 0 with the rows and is 0 at the other free places is a sum of these kernel rows -/
theorem ker_in (R : Red w L) : ∀ {F : List Nat} {x : Nat → Int}, (∀ f ∈ F, f < w ∧ Free L f) → (∀ r ∈ L, sumN (fun i => x i * at_ r i) w = 0) → (∀ i, w ≤ i → x i = 0) → (∀ i, i < w → Free L i → i ∉ F → x i = 0) → InS (F.map (kr L w)) x
  | [], x, _, hx, h0, h1 => InS.zero fun i => by
    by_cases hi : i < w
    · by_cases hf : Free L i
      · exact h1 i hi hf (by simp)
      · have : ∃ r ∈ L, lead r = i := Classical.byContradiction fun n => hf fun r hr e => n ⟨r, hr, e⟩
        obtain ⟨r, hr, rfl⟩ := this
        have h2 := hx r hr
        rw [sumN_two (a := lead r) (b := w) (by omega) fun i hi n1 n2 => ?_, if_pos hi, if_neg (by omega)] at h2
        · rw [Int.add_zero] at h2
          exact (Int.mul_eq_zero.mp h2).resolve_right (lead_ne (R.nz r hr))
        · by_cases hf : Free L i
          · rw [h1 i hi hf (by simp), Int.zero_mul]
          · have : ∃ r ∈ L, lead r = i := Classical.byContradiction fun n => hf fun r hr e => n ⟨r, hr, e⟩
            obtain ⟨s, hs, rfl⟩ := this
            rw [R.off hr hs (Ne.symm n1), Int.mul_zero]
    · exact h0 i (by omega)
  | f :: F, x, hF, hx, h0, h1 => by
    obtain ⟨hf, hfr⟩ := hF f (by simp)
    have sp := sh_pos R
    have svf : at_ (sv w f (sh L) L) f = sh L := fs_free hf hfr
    have ih := ker_in R (F := F) (x := fun i => sh L * x i + (-x f) * at_ (sv w f (sh L) L) i) (fun g hg => hF g (by simp [hg])) (fun r hr => by
      rw [sumN_congr (u := fun i => sh L * (x i * at_ r i) + (-x f) * (at_ (sv w f (sh L) L) i * at_ r i)) fun i _ => by rw [Int.add_mul, Int.mul_assoc, Int.mul_assoc], sumN_add, sumN_smul, sumN_smul, hx r hr, sv_orth R hf hfr r hr]; simp)
      (fun i hi => by rw [h0 i hi, at_ge (by rw [sv_len]; exact hi)]; simp) fun i hi hfi hn => by
        by_cases e : i = f
        · subst e; rw [svf, Int.neg_mul, Int.mul_comm]; omega
        · have e2 : at_ (sv w f (sh L) L) i = 0 := fs_other hf hfi e
          rw [h1 i hi hfi (by simp [e, hn]), e2]; simp
    have ih : InS ((f :: F).map (kr L w)) _ := ih.mono fun y hy => by simp at hy ⊢; exact .inr hy
    have hs : InS ((f :: F).map (kr L w)) (at_ (sv w f (sh L) L)) := by
      apply in_prim
      rw [← prim_kv R hf hfr]
      exact .mem (by simp)
    refine (ih.lin hs 1 (x f)).div (sh L) (by omega) fun i => ?_
    show sh L * x i = 1 * (sh L * x i + -x f * at_ (sv w f (sh L) L) i) + x f * at_ (sv w f (sh L) L) i
    rw [Int.neg_mul]; omega
theorem frees_count (R : Red w L) : (frees L w).length + L.length = w := by
  have nd : (frees L w ++ L.map lead).Nodup := by
    rw [List.nodup_append]
    refine ⟨List.nodup_range.filter _, ?_, fun a ha b hb e => ?_⟩
    · rw [List.Nodup, List.pairwise_map]
      exact R.lt.imp fun h => Nat.ne_of_lt h
    · obtain ⟨r, hr, rfl⟩ := List.mem_map.mp hb
      exact (mem_frees.mp ha).2 r hr e.symm
  have p := (List.perm_ext_iff_of_nodup nd List.nodup_range).mpr fun a => by
    constructor
    · intro h
      rcases List.mem_append.mp h with h | h
      · exact List.mem_range.mpr (mem_frees.mp h).1
      · obtain ⟨r, hr, rfl⟩ := List.mem_map.mp h
        have := lead_lt (R.nz r hr)
        rw [(R.each r hr).2] at this
        exact List.mem_range.mpr this
    · intro h
      by_cases hf : Free L a
      · exact List.mem_append.mpr (.inl (mem_frees.mpr ⟨List.mem_range.mp h, hf⟩))
      · have : ∃ r ∈ L, lead r = a := Classical.byContradiction fun n => hf fun r hr e => n ⟨r, hr, e⟩
        obtain ⟨r, hr, rfl⟩ := this
        exact List.mem_append.mpr (.inr (List.mem_map.mpr ⟨r, hr, rfl⟩))
  have := p.length_eq
  simpa using this
def unit (i : Nat) : Nat → Int := fun j => if j = i then 1 else 0
theorem unit_sum {x : Nat → Int} {i n : Nat} (hi : i < n) : sumN (fun j => x j * unit i j) n = x i := by
  rw [sumN_two (a := i) (b := n) (by omega) fun j hj n1 n2 => by simp [unit, n1], if_pos hi, if_neg (by omega)]
  simp [unit]
theorem unit_bd {B : Nat} (hB1 : 1 ≤ B) (i j : Nat) : (unit i j).natAbs ≤ B := by
  unfold unit; split
  · exact hB1
  · simp
theorem prim_kr (R : Red w L) {f : Nat} (hf : f < w) (h : Free L f) : IsPrim (kr L w f) := prim_isPrim (kv_nz R hf h)
theorem kr_len {f : Nat} : (kr L w f).length = w := by rw [prim_len, kv_len]
/-- reduced rows of kernel rows are small -/
theorem redK_bd {A : List Row} {B : Nat} (hA : ∀ r ∈ A, r.length = w) (hb : ∀ r ∈ A, BdN B r) (hB1 : 1 ≤ B) {F G : List Nat} (hp : (F ++ G).Perm (frees (redR A) w)) : ∀ r ∈ redR (F.map (kr (redR A) w)), BdN ((2 * w * B) ^ (w - 1)) r := fun r hr => by
  have R := redR_red hA
  have hF : ∀ f ∈ F, f < w ∧ Free (redR A) f := fun f hf => mem_frees.mp (hp.mem_iff.mp (by simp [hf]))
  have hG : ∀ f ∈ G, f < w ∧ Free (redR A) f := fun f hf => mem_frees.mp (hp.mem_iff.mp (by simp [hf]))
  have hP : ∀ k ∈ F.map (kr (redR A) w), k.length = w := fun k hk => by obtain ⟨f, _, rfl⟩ := List.mem_map.mp hk; exact kr_len
  have R' := redR_red hP
  obtain ⟨K, k1, k2, k3⟩ := kset (Red.nil w) (K := []) rfl (fun r hr => by simp at hr) hA
  obtain ⟨S, T, e⟩ := List.append_of_mem hr
  have cnt := frees_count R
  have pl := hp.length_eq
  have k2 : K.length = (redR A).length := k2
  have el : (redR (F.map (kr (redR A) w))).length ≤ F.length := by have := redR_le (F.map (kr (redR A) w)); simpa using this
  have el2 : (redR (F.map (kr (redR A) w))).length = S.length + T.length + 1 := by rw [e]; simp; omega
  rw [List.length_append] at pl
  have lr := (R'.each r hr).2
  have ltw : ∀ t ∈ redR (F.map (kr (redR A) w)), lead t < w := fun t ht => by have := lead_lt (R'.nz t ht); rwa [(R'.each t ht).2] at this
  have mem : ∀ o ∈ S ++ T, o ∈ redR (F.map (kr (redR A) w)) := fun o ho => by
    rw [e]
    rcases List.mem_append.mp ho with q | q <;> simp [q]
  refine pin_bd (R'.each r hr).1 lr (K.map at_ ++ G.map unit ++ (S ++ T).map fun o => unit (lead o)) (by simp; omega) hB1 (fun q hq j => ?_) fun x hx hE => ?_
  · rcases List.mem_append.mp hq with hq | hq
    · rcases List.mem_append.mp hq with hq | hq
      · obtain ⟨y, hy, rfl⟩ := List.mem_map.mp hq
        exact hb y ((k1 y hy).resolve_right (by simp)) j
      · obtain ⟨i, _, rfl⟩ := List.mem_map.mp hq
        exact unit_bd hB1 i j
    · obtain ⟨i, _, rfl⟩ := List.mem_map.mp hq
      exact unit_bd hB1 _ j
  · have hK : ∀ y ∈ K, sumN (fun i => at_ x i * at_ y i) w = 0 := fun y hy => hE _ (by simp only [List.mem_append, List.mem_map]; exact .inl (.inl ⟨y, hy, rfl⟩))
    have hL : ∀ y ∈ redR A, sumN (fun i => at_ x i * at_ y i) w = 0 := fun y hy => orth_in hK (k3 y hy)
    have hz : ∀ g ∈ G, at_ x g = 0 := fun g hg => by
      have := hE (unit g) (by simp only [List.mem_append, List.mem_map]; exact .inl (.inr ⟨g, hg, rfl⟩))
      rwa [unit_sum (hG g hg).1] at this
    have hin : InS (redR (F.map (kr (redR A) w))) (at_ x) := (ker_in R hF hL (fun i hi => at_ge (by omega)) fun i hi hfi hn => by
      have : i ∈ F ++ G := hp.mem_iff.mpr (mem_frees.mpr ⟨hi, hfi⟩)
      exact hz i ((List.mem_append.mp this).resolve_left hn)).trans (redR_in hP)
    have ho : ∀ o ∈ S ++ T, at_ x (lead o) = 0 := fun o ho => by
      have := hE (unit (lead o)) (by simp only [List.mem_append, List.mem_map]; exact .inr ⟨o, List.mem_append.mp ho, rfl⟩)
      rwa [unit_sum (ltw o (mem o ho))] at this
    have lv := R'.lv r hr
    refine ⟨leadV r, at_ x (lead r), by omega, fun i => ?_⟩
    have := R'.none (hin.lin (InS.mem hr) (leadV r) (-at_ x (lead r))) (fun t ht => by
      by_cases et : lead t = lead r
      · rw [et]
        show leadV r * at_ x (lead r) + -at_ x (lead r) * leadV r = 0
        rw [Int.neg_mul, Int.mul_comm]; omega
      · have hm : t ∈ S ++ T := by
          have ht := ht
          rw [e] at ht
          rcases List.mem_append.mp ht with q | q
          · simp [q]
          · rcases List.mem_cons.mp q with rfl | q
            · exact absurd rfl et
            · simp [q]
        rw [R'.off hr ht (Ne.symm et), ho t hm]; simp) i
    rw [Int.neg_mul] at this
    omega
end
theorem num8 : (16 * 2 ^ 170) ^ 7 * (2 * (16 * 2 ^ 170) ^ 7) ^ 8 < 2 ^ 10990 := by decide +kernel
theorem num8' : (16 * 2 ^ 170) ^ 7 < 2 ^ 10990 := by decide +kernel
theorem BdN.mono {b c : Nat} {r : Row} (h : BdN b r) (hc : b ≤ c) : BdN c r := fun i => Nat.le_trans (h i) hc
theorem mono8 {w : Nat} (hw : w ≤ 8) : (2 * w * 2 ^ 170) ^ (w - 1) ≤ (16 * 2 ^ 170) ^ 7 := by
  calc (2 * w * 2 ^ 170) ^ (w - 1) ≤ (16 * 2 ^ 170) ^ (w - 1) := Nat.pow_le_pow_left (Nat.mul_le_mul_right _ (by omega)) _
    _ ≤ (16 * 2 ^ 170) ^ 7 := Nat.pow_le_pow_right (by decide) (by omega)
/-- the kernel's rows may be reduced -/
theorem smR_ker {w : Nat} {A : List Row} (hw : w ≤ 8) (hA : ∀ r ∈ A, r.length = w) (hb : ∀ r ∈ A, BdN (2 ^ 170) r) (hbig : 10990 ≤ big) : SmR [] (kerR (redR A) w) := by
  have R := redR_red hA
  have pb : (2 : Nat) ^ 10990 ≤ 2 ^ big := Nat.pow_le_pow_right (by decide) hbig
  have key : ∀ {G F : List Nat}, F ++ G = frees (redR A) w → SmR (redR (F.map (kr (redR A) w))) (G.map (kr (redR A) w)) := fun {G} => by
    induction G with
    | nil => intro F _; trivial
    | cons g G ih =>
      intro F e
      have hP : ∀ k ∈ F.map (kr (redR A) w), k.length = w := fun k hk => by obtain ⟨f, _, rfl⟩ := List.mem_map.mp hk; exact kr_len
      have R' := redR_red hP
      have hg : g < w ∧ Free (redR A) g := mem_frees.mp (by rw [← e]; simp)
      have hl : F.length + 1 ≤ w := by
        have := frees_count R
        have := congrArg List.length e
        simp at this
        omega
      refine ⟨?_, ?_⟩
      · have bg : BdN ((2 * w * 2 ^ 170) ^ (w - 1)) (kr (redR A) w g) := by
          have hm := redK_bd hA hb (Nat.one_le_two_pow) (F := [g]) (G := F ++ G) (by rw [← e]; exact (List.perm_middle (l₁ := F) (l₂ := G) (a := g)).symm)
          have hr : Red w [kr (redR A) w g] := ⟨fun r hr => by rw [List.mem_singleton.mp hr]; exact ⟨prim_kr R hg.1 hg.2, kr_len⟩, List.pairwise_singleton _ _⟩
          have : redR [kr (redR A) w g] = [kr (redR A) w g] := (redR_red (w := w) (A := [kr (redR A) w g]) fun r hr => by rw [List.mem_singleton.mp hr]; exact kr_len).unique hr (in_redR fun r hr => (List.mem_singleton.mp hr) ▸ kr_len) (redR_in fun r hr => (List.mem_singleton.mp hr) ▸ kr_len)
          exact hm _ (by show kr (redR A) w g ∈ redR [kr (redR A) w g]; rw [this]; exact List.mem_singleton.mpr rfl)
        have bl := redK_bd hA hb (Nat.one_le_two_pow) (F := F) (G := g :: G) (by rw [e])
        have ll : (redR (F.map (kr (redR A) w))).length ≤ 7 := by have := redR_le (F.map (kr (redR A) w)); rw [List.length_map] at this; omega
        refine smA_bd (M := (16 * 2 ^ 170) ^ 7) (b := (16 * 2 ^ 170) ^ 7) (by decide +kernel) (Nat.lt_of_lt_of_le num8' pb) (fun o ho => ⟨(R'.each o ho).2, (bl o ho).mono (mono8 hw)⟩) kr_len (bg.mono (mono8 hw)) (Nat.lt_of_le_of_lt (Nat.mul_le_mul_left _ (Nat.pow_le_pow_right (by decide +kernel) (by omega))) (Nat.lt_of_lt_of_le num8 pb))
      · have : addR (redR (F.map (kr (redR A) w))) (kr (redR A) w g) = redR ((F ++ [g]).map (kr (redR A) w)) := by
          unfold redR
          rw [List.map_append, List.foldl_append]; rfl
        show SmR (addR (redR (F.map (kr (redR A) w))) (kr (redR A) w g)) (G.map (kr (redR A) w))
        rw [this]
        exact ih (by rw [← e]; simp)
  exact key (F := []) rfl
end RX
/-! The sizes of the kernel's own steps, and of lists of narrow rows. -/
namespace RX
theorem kset2 {w : Nat} : ∀ {rs L K : List Row}, Red w L → K.length = L.length → Indep K → (∀ r ∈ K, InS L (at_ r)) → (∀ r ∈ L, InS K (at_ r)) → (∀ r ∈ rs, r.length = w) → ∃ K' : List Row, (∀ x ∈ K', x ∈ rs ∨ x ∈ K) ∧ K'.length = (rs.foldl addR L).length ∧ Indep K' ∧ ∀ r ∈ K', InS (rs.foldl addR L) (at_ r)
  | [], L, K, _, h1, hI, hKL, h2, _ => ⟨K, fun x h => .inr h, h1, hI, hKL⟩
  | r :: rs, L, K, R, h1, hI, hKL, h2, h3 => by
    have hl := h3 r (by simp)
    obtain ⟨s1, s2⟩ := addR_span R hl
    rw [List.foldl_cons]
    by_cases hin : InS K (at_ r)
    · have e := addR_in R hl (hin.trans hKL)
      rw [e]
      obtain ⟨K', a1, a2, a3, a4⟩ := kset2 R h1 hI hKL h2 fun x hx => h3 x (List.mem_cons_of_mem _ hx)
      exact ⟨K', fun x hx => (a1 x hx).imp (fun h => by simp [h]) id, a2, a3, a4⟩
    · have hnz : ¬ isZb (prim (redF L r)) = true := fun z => hin (by
        have e : addR L r = L := by unfold addR; rw [if_pos z]
        rw [e] at s2
        exact (s2 r (by simp)).trans h2)
      have el : (addR L r).length = L.length + 1 := by
        unfold addR
        rw [if_neg hnz, (ins_perm _ _).length_eq]; simp
      obtain ⟨K', a1, a2, a3, a4⟩ := kset2 (K := r :: K) (addR_red R hl) (by rw [el, List.length_cons, h1]) (indep_cons hI hin) (fun x hx => by
        rcases List.mem_cons.mp hx with rfl | hx
        · exact s2 _ (by simp)
        · exact (hKL x hx).trans fun y hy => s2 y (by simp [hy])) (fun x hx => (s1 x hx).trans fun y hy => by
        rcases List.mem_cons.mp hy with rfl | hy
        · exact .mem (by simp)
        · exact (h2 y hy).mono fun z hz => by simp [hz]) fun x hx => h3 x (List.mem_cons_of_mem _ hx)
      refine ⟨K', fun x hx => ?_, a2, a3, a4⟩
      rcases a1 x hx with q | q
      · exact .inl (by simp [q])
      · rcases List.mem_cons.mp q with rfl | q
        · exact .inl (by simp)
        · exact .inr q
theorem Red.le {w : Nat} {L : List Row} (R : Red w L) : L.length ≤ w := by have := frees_count R; omega
/-- reduced rows of small rows -/
theorem red_small {w B : Nat} {A : List Row} (hA : ∀ r ∈ A, r.length = w) (hb : ∀ r ∈ A, BdN B r) (hB1 : 1 ≤ B) : ∀ r ∈ redR A, BdN ((2 * w * B) ^ w) r := fun r hr => by
  obtain ⟨K, k1, k2, k3, k4⟩ := kset2 (Red.nil w) (K := []) rfl (fun ds hl _ d hd => by
    have : ds = [] := List.eq_nil_of_length_eq_zero hl
    rw [this] at hd; simp at hd) (fun r hr => by simp at hr) (fun r hr => by simp at hr) hA
  have hK : BdR B K := fun x hx => hb x ((k1 x hx).resolve_right (by simp))
  have h := red_bd (redR_red hA) k4 hK hB1 k3 k2 r hr
  have k2 : K.length = (redR A).length := k2
  have hkk : K.length ≤ w := by have := (redR_red hA).le; omega
  refine BdN.mono h ?_
  rcases Nat.eq_zero_or_pos w with z | z
  · have : K.length = 0 := by omega
    rw [this, z]; simp
  · have b0 : 1 ≤ 2 * w * B := Nat.mul_le_mul (show 1 ≤ 2 * w by omega) hB1
    calc (2 * K.length * B) ^ K.length ≤ (2 * w * B) ^ K.length := Nat.pow_le_pow_left (Nat.mul_le_mul_right _ (Nat.mul_le_mul_left _ (by omega))) _
      _ ≤ (2 * w * B) ^ w := Nat.pow_le_pow_right b0 (by omega)
/-- reduced rows, their numbers below 2 ^ b -/
structure RedG (w b : Nat) (L : List Row) : Prop where
  red : Red w L
  eight : L.length ≤ 8
  sm : ∀ r ∈ L, ∀ i, (at_ r i).natAbs < 2 ^ b
section
variable {w b f : Nat} {L : List Row}
theorem kf_take {r : Row} {j : Nat} (h : L[j]? = some r) : kf (L.take (j + 1)) f = if at_ r f ≠ 0 then kf (L.take j) f * leadV r / (Int.gcd (kf (L.take j) f) (leadV r) : Nat) else kf (L.take j) f := by
  unfold kf
  rw [List.take_add_one, h, List.foldl_append]; rfl
theorem fs_snoc (g : Row → Int) (r : Row) : ∀ (A : List Row) (v : Row), fs g (A ++ [r]) v = (fs g A v).set (lead r) (g r)
  | [], v => rfl
  | s :: A, v => fs_snoc g r A _
theorem fs_take {g : Row → Int} {r : Row} {j : Nat} {v : Row} (h : L[j]? = some r) : fs g (L.take (j + 1)) v = (fs g (L.take j) v).set (lead r) (g r) := by
  rw [List.take_add_one, h]; exact fs_snoc g r _ v
theorem fold_bd (f M : Nat) : ∀ {L : List Row} {c : Int} {b : Nat}, (∀ r ∈ L, leadV r > 0 ∧ (leadV r).natAbs ≤ M) → 0 < c → c.natAbs ≤ b → 1 ≤ M →
    0 < L.foldl (fun c r => if at_ r f ≠ 0 then c * leadV r / (Int.gcd c (leadV r) : Nat) else c) c ∧ (L.foldl (fun c r => if at_ r f ≠ 0 then c * leadV r / (Int.gcd c (leadV r) : Nat) else c) c).natAbs ≤ b * M ^ L.length
  | [], c, b, _, hc, hb, _ => ⟨hc, by simpa using hb⟩
  | s :: L, c, b, hL, hc, hb, hM => by
    obtain ⟨p1, p2⟩ := hL s (by simp)
    have hLr : ∀ r ∈ L, leadV r > 0 ∧ (leadV r).natAbs ≤ M := fun r hr => hL r (by simp [hr])
    have e : b * M ^ (s :: L).length = b * M * M ^ L.length := by rw [List.length_cons, Nat.pow_succ, Nat.mul_comm (M ^ L.length), Nat.mul_assoc]
    have m1 : (c * leadV s).natAbs ≤ b * M := by rw [Int.natAbs_mul]; exact Nat.mul_le_mul hb p2
    rw [List.foldl_cons, e]
    obtain ⟨a1, _, _, a4⟩ := lcm_step hc p1
    split
    · refine fold_bd f M hLr a1 ?_ hM
      omega
    · exact fold_bd f M hLr hc (Nat.le_trans hb (Nat.le_mul_of_pos_right _ hM)) hM
theorem RedG.lv (R : RedG w b L) : ∀ r ∈ L, leadV r > 0 ∧ (leadV r).natAbs ≤ 2 ^ b := fun r hr => ⟨R.red.lv r hr, Nat.le_of_lt (R.sm r hr _)⟩
theorem kf_bd (R : RedG w b L) (f j : Nat) : 0 < kf (L.take j) f ∧ (kf (L.take j) f).natAbs < 2 ^ (8 * b + 1) := by
  obtain ⟨a, h⟩ := fold_bd f (L := L.take j) (c := 1) (b := 1) (2 ^ b) (fun r hr => R.lv r (List.mem_of_mem_take hr)) (by decide) (by decide) Nat.one_le_two_pow
  refine ⟨a, Nat.lt_of_le_of_lt h ?_⟩
  rw [Nat.one_mul, ← Nat.pow_mul]
  have := R.eight
  refine Nat.pow_lt_pow_right (by decide) ?_
  rw [List.length_take]
  have : b * min j L.length ≤ b * 8 := Nat.mul_le_mul_left _ (by omega)
  omega
theorem fs_sm {g : Row → Int} {B : Nat} : ∀ {L : List Row} {v : Row}, (∀ x ∈ v, x.natAbs < B) → (∀ r ∈ L, (g r).natAbs < B) → ∀ x ∈ fs g L v, x.natAbs < B
  | [], v, hv, _ => hv
  | r :: L, v, hv, hg => fs_sm (L := L) (fun x hx => by
    rcases List.mem_or_eq_of_mem_set hx with q | q
    · exact hv x q
    · rw [q]; exact hg r (by simp)) fun s hs => hg s (by simp [hs])
theorem zf_sm {c : Int} {B : Nat} (hB : 0 < B) (hc : c.natAbs < B) : ∀ x ∈ zf w f c, x.natAbs < B := fun x hx => by
  rcases List.mem_or_eq_of_mem_set hx with q | q
  · rw [(List.mem_replicate.mp q).2]; exact hB
  · rw [q]; exact hc
theorem div_le_abs {a l : Int} (hl : 0 < l) (h : l ∣ a) : (a / l).natAbs ≤ a.natAbs := by
  obtain ⟨k, rfl⟩ := h
  rw [Int.mul_ediv_cancel_left k (by omega), Int.natAbs_mul]
  exact Nat.le_mul_of_pos_left _ (by omega)
theorem mul_lt2 {a b : Int} {m n : Nat} (ha : a.natAbs < 2 ^ m) (hb : b.natAbs < 2 ^ n) : (a * b).natAbs < 2 ^ (m + n) := by
  rw [Int.natAbs_mul, Nat.pow_add]
  exact Nat.mul_lt_mul'' ha hb
/-- the kernel's row ahead of its being made primitive -/
theorem kv_sm (R : RedG w b L) (f : Nat) : ∀ x ∈ kv w f (kf L f) L, x.natAbs < 2 ^ (9 * b + 1) := by
  obtain ⟨k0, k1⟩ := kf_bd R f L.length
  rw [List.take_length] at k0 k1
  refine fs_sm (zf_sm (Nat.two_pow_pos _) (Nat.lt_of_lt_of_le k1 (Nat.pow_le_pow_right (by decide) (by omega)))) fun r hr => ?_
  have lv := R.red.lv r hr
  have hd : leadV r ∣ -at_ r f * kf L f := by rw [Int.neg_mul]; exact Int.dvd_neg.mpr (kf_dvd R.red hr)
  refine Nat.lt_of_le_of_lt (div_le_abs lv hd) (Nat.lt_of_lt_of_le (mul_lt2 (m := b) (n := 8 * b + 1) ?_ k1) (Nat.pow_le_pow_right (by decide) (by omega)))
  rw [Int.natAbs_neg]; exact R.sm r hr f
theorem Sm.of {r : Row} {b : Nat} (h : ∀ x ∈ r, x.natAbs < 2 ^ b) (hb : b ≤ big) : Sm r := fun x hx => Nat.lt_of_lt_of_le (h x hx) (Nat.pow_le_pow_right (by decide) hb)
end
/-! ### narrow rows -/
theorem num200 : 2 ^ 200 * (2 * (2 * 7 * 2 ^ 200) ^ 7) ^ (7 + 1) < 2 ^ big := by unfold big; decide +kernel
theorem num200' : (2 * 7 * 2 ^ 200) ^ 7 < 2 ^ big := by unfold big; decide +kernel
/-- at most seven numbers a row, each at most 2 ^ 200: such a list may be reduced -/
theorem smR7 {w : Nat} {rs : List Row} (hw : w ≤ 7) (hrs : ∀ r ∈ rs, r.length = w ∧ BdN (2 ^ 200) r) : SmR [] rs :=
  smR_nil (κ := 7) (B := 2 ^ 200) Nat.one_le_two_pow num200 num200' hrs fun i => by
    have := (redR_red (w := w) (A := rs.take i) fun r hr => (hrs r (List.mem_of_mem_take hr)).1).le
    omega
theorem num1200 : 2 ^ 1200 * (2 * 2 ^ 1200) ^ 8 < 2 ^ big := by unfold big; decide +kernel
theorem redR_self {w : Nat} {D : List Row} (R : Red w D) : redR D = D := by
  have hD : ∀ r ∈ D, r.length = w := fun r hr => (R.each r hr).2
  exact (redR_red hD).unique R (in_redR hD) (redR_in hD)
theorem Red.take {w : Nat} {D : List Row} (R : Red w D) (i : Nat) : Red w (D.take i) := ⟨fun r hr => R.each r (List.mem_of_mem_take hr), R.pw.sublist (List.take_sublist i D)⟩
theorem smR_pre {w : Nat} : ∀ {rs L : List Row}, Red w (L ++ rs) → (∀ r ∈ L ++ rs, BdN (2 ^ 1200) r) → (L ++ rs).length ≤ 7 → SmR L rs
  | [], L, _, _, _ => trivial
  | r :: rs, L, R, hb, hl => by
    have hLr : L ++ r :: rs = (L ++ [r]) ++ rs := by simp
    have RL : Red w L := by have := R.take L.length; rwa [List.take_left] at this
    have RL1 : Red w (L ++ [r]) := by have := R.take (L.length + 1); rwa [hLr, List.take_left' (by simp)] at this
    have hrl : r.length = w := (R.each r (by simp)).2
    have e : addR L r = L ++ [r] := by
      have e1 := redR_self RL
      have e2 := redR_self RL1
      unfold redR at e1 e2
      rw [List.foldl_append, e1] at e2
      exact e2
    refine ⟨smA_bd (M := 2 ^ 1200) (b := 2 ^ 1200) Nat.one_le_two_pow (Nat.pow_lt_pow_right (by decide) (by decide)) (fun o ho => ⟨(RL.each o ho).2, hb o (by simp [ho])⟩) hrl (hb r (by simp)) (Nat.lt_of_le_of_lt (Nat.mul_le_mul_left _ (Nat.pow_le_pow_right (by decide +kernel) (by simp at hl; omega))) num1200), ?_⟩
    rw [e]
    rw [hLr] at R hb hl
    exact smR_pre R hb hl
/-- reduced rows may be reduced -/
theorem smR_red {w : Nat} {D : List Row} (hw : w ≤ 7) (R : Red w D) (hb : ∀ r ∈ D, BdN (2 ^ 1200) r) : SmR [] D := smR_pre (L := []) R hb (by have := R.le; simp; omega)
end RX
namespace K21
open PySem PySem.Spec PyProof.Rows L2 Evl AX
open RX (at_ prim gcdL lead isZ redF wo addR redR leadV kf sh kv sv fs zf kr kerR)
abbrev sKernel : Stmt := topS 15
theorem scKernel : FnScope ["rows", "width", "known", "row", "leads", "found", "free", "factor", "values"] ["rows", "width"] (defScope sKernel) := ⟨rfl, rfl, rfl, by decide +kernel, rfl, by decide +kernel, by decide +kernel⟩
/-- the kernel's rows of the first places -/
def kerTo (L : List RX.Row) (n i : Nat) : List RX.Row := ((List.range i).filter (RX.freeB L)).map (kr L n)
theorem kerTo_succ (L : List RX.Row) (n i : Nat) : kerTo L n (i + 1) = if RX.freeB L i = true then kerTo L n i ++ [kr L n i] else kerTo L n i := by
  unfold kerTo
  rw [List.range_succ, List.filter_append, List.map_append]
  by_cases h : RX.freeB L i = true
  · rw [if_pos h, List.filter_cons_of_pos h]; rfl
  · rw [if_neg h, List.filter_cons_of_neg h]; simp
theorem free_mem {L : List RX.Row} {i : Nat} : (!decide ((i : Int) ∈ L.map fun r => (lead r : Int))) = RX.freeB L i := by
  unfold RX.freeB
  induction L with
  | nil => simp
  | cons r L ih =>
    rw [List.all_cons, ← ih]
    by_cases h : lead r = i
    · subst h; simp
    · have h2 : ¬ (i : Int) = (lead r : Int) := by omega
      simp [h, h2]
abbrev stK (so L : List RX.Row) (n : Nat) (row : Option DV) (fo : List DV) (fr fa va : Option DV) : Sto := [some (.imm (dRs so)), some (.imm (.int n)), some (.imm (dRs L)), row.map .imm, some (.imm (.lst ((L.map fun r => (lead r : Int)).map DV.int))), some (.own none (.lst fo)), fr.map .imm, fa.map .imm, va.map .imm]
theorem u65 {k : Nat} {A : Around} (r : Room k A) : A.units + 65 < cLine := by have := r.un; omega
theorem rep_one : ∀ n : Nat, (List.replicate n [DV.int 0]).flatten = List.replicate n (DV.int 0)
  | 0 => rfl
  | n + 1 => congrArg (DV.int 0 :: ·) (rep_one n)
section
variable {P : Program} {w : World} {S : Sig} {mg : Str → Option Value} {base : Heap}
def W_kernel : AW1 := fun avs k => ∃ (so : List RX.Row) (n b : Nat), n ≤ 8 ∧ so.length ≤ 1000 ∧ (∀ r ∈ so, r.length = n) ∧ RX.SmR [] so ∧ RX.RedG n b (redR so) ∧ 1 ≤ b ∧ b ≤ 1400 ∧ avs = [.imm (dRs so), .imm (.int n)] ∧ k [] (.imm (dRs (kerR (redR so) n)))
theorem ok_kernel {f : Addr} {fd : FuncData} (F : L2.Fun S.K "kernel" "kernel" sKernel f fd) (C1 : Can P w mg base S 6 "reduced" ["rows", "width"] W_reduced) (C2 : Can P w mg base S 1 "lead" ["row"] W_lead) (C3 : Can P w mg base S 1 "common_factor" ["one", "other"] W_cf) (C4 : Can P w mg base S 2 "primitive" ["row"] W_prim) (mr : mg "range" = none) (mt : mg "tuple" = none) :
    FnOk P w S.K mg base CX0 7 f fd ["rows", "width"] (spA S 2 W_kernel) := by
  refine fn_ok F scKernel fun cdv A outer s H E hr avs kk hl ⟨so, n, b, hn8, h6, hlen, hsm, RS, hb1, hb, ha, hk⟩ => ?_
  subst ha
  have hL6 := RS.eight
  refine Do.cons (DoS.set 2 scKernel.nd (AE.call C1 hr rfl (AA.cons (AE.var 0 rfl (AA.cons (AE.var 1 rfl (AA.nil ⟨OkA.d rfl rfl, so, n, by omega, by omega, hlen, hsm, rfl, _, rfl, ?_⟩)))))))
  generalize redR so = L at *
  have hLn : ∀ r ∈ L, r.length = n := fun r hr => (RS.red.each r hr).2
  have hLd : ∀ r ∈ L, dLead r = .int (lead r) := fun r hr => if_neg fun z => RS.red.nz r hr (RX.isZb_iff.mp z)
  have hLl : ∀ r ∈ L, lead r < n := fun r hr => by have := RX.lead_lt (RS.red.nz r hr); rwa [hLn r hr] at this
  show Do S _ _ [some (.imm (dRs so)), some (.imm (.int n)), some (.imm (dRs L)), none, none, none, none, none, none] _
  refine Do.cons (DoS.setLcL [("row", 3)] 4 rfl scKernel.nd rfl (blkOk_by (N := ["rows", "width", "known", "row", "leads", "found", "free", "factor", "values"]) (sc := defScope sKernel) (by decide +kernel)) (AE.var 2 rfl ⟨_, rfl, Comp.to [3] ((L.map fun r => (lead r : Int)).map DV.int) (by decide) (by simp) (by simp; omega) (noOwn rfl) ?_ ?_⟩))
  · intro i x y hx hy s0 H0 C0 cl fp
    obtain ⟨r, hrr, rfl⟩ := map_get hx
    have hm := List.mem_of_getElem? hrr
    have ey : y = .int (lead r) := by
      rw [List.map_map, List.getElem?_map, hrr] at hy
      exact (Option.some.inj hy).symm
    refine AG.name 3 scKernel.nd fun s0 H0 C0 cl fp => ATs.nil ⟨rfl, fun s0 H0 C0 cl fp => AE.call C2 (hr.mono (by decide)) rfl (AA.cons (AE.var 3 rfl (AA.nil ⟨OkA.d rfl rfl, r, by rw [hLn r hm]; omega, rfl, _, rfl, rfl, ?_⟩)))⟩
    rw [ey, hLd r hm]
  refine Do.frz 4 rfl ?_
  refine Do.cons (DoS.setF 5 scKernel.nd (AF.lst (AA.nil ⟨[], rfl, by decide, ?_⟩)))
  refine Do.cons (DoS.forR rfl PassesOwn.never mr (AE.var 1 rfl ⟨n, rfl, by omega, by omega, fun i δ => ∃ row fr fa va : Option DV, δ = stK so L n row ((kerTo L n i).map dR) fr fa va, ⟨none, none, none, none, rfl⟩, ?_, ?_⟩))
  · rintro i x δ2 hx ⟨row, fr, fa, va, rfl⟩
    obtain ⟨hi, rfl⟩ := range_get (lo := 0) hx
    have hi : i < n := by simpa using hi
    rw [Int.zero_add]
    have hfl : (kerTo L n i).length ≤ 8 := by unfold kerTo; rw [List.length_map]; exact Nat.le_trans (List.length_filter_le _ _) (by rw [List.length_range]; omega)
    refine ⟨[6], AG.name 6 scKernel.nd ?_⟩
    refine Do.one (DoS.ite (AT.cmp (op_notInD (u65 hr)) (AE.var 6 rfl (AE.var 4 rfl ⟨_, p2_notIn (by rw [py_ints]; exact shapedI _ (by rw [List.length_map]; omega)), ?_⟩)) rfl))
    rw [free_mem]
    have ek := kerTo_succ L n i
    by_cases hf : RX.freeB L i = true
    · rw [if_pos hf] at ek ⊢
      have hfr := RX.freeB_iff.mp hf
      refine Do.cons (DoS.set 7 scKernel.nd (AE.int ?_))
      refine Do.cons (DoS.forL rfl rfl PassesOwn.never (AE.var 2 rfl ⟨_, rfl, fun j δ => ∃ row : Option DV, δ = stK so L n row ((kerTo L n i).map dR) (some (.int i)) (some (.int (kf (L.take j) i))) va, ⟨row, rfl⟩, ?_, ?_⟩))
      · rintro j x δ2 hx ⟨row, rfl⟩
        obtain ⟨r, hrr, rfl⟩ := map_get hx
        have hm := List.mem_of_getElem? hrr
        have hrl := hLn r hm
        obtain ⟨k0, k1⟩ := RX.kf_bd RS i j
        have lv := (RS.lv r hm).1
        have et := RX.kf_take (f := i) hrr
        refine ⟨[3], AG.name 3 scKernel.nd ?_⟩
        refine Do.one (DoS.ite (AT.cmp op_ne (AE.sub ix_tup (AE.var 3 rfl (AE.var 6 rfl ⟨_, p2_ixT (ix_row (by omega)), AE.int ⟨_, p2_neI, ?_⟩⟩)))))
        by_cases h0 : at_ r i = 0
        · rw [if_neg (by simp [h0])]
          rw [if_neg (by simp [h0])] at et
          exact Do.nil ⟨some (dR r), by rw [et] <;> rfl⟩
        · rw [if_pos (by simp [h0])]
          rw [if_pos h0] at et
          refine Do.one (DoS.set 7 scKernel.nd (AE.bin op_fdivW (AE.bin op_mulW (AE.var 7 rfl (AE.sub ix_tup (AE.var 3 rfl (AE.call C2 (hr.mono (by decide)) rfl (AA.cons (AE.var 3 rfl (AA.nil ⟨OkA.d rfl rfl, r, by omega, rfl, _, rfl, ?_⟩))))))))))
          rw [hLd r hm]
          refine ⟨_, p2_ixT (ix_row (by have := hLl r hm; omega)), _, p2_ciii ?_, ?_⟩
          · exact wide_mul (a := 8 * b + 1) (b := b) k1 (RS.sm r hm _) (by omega) (by omega) (by omega)
          refine AE.call C3 (hr.mono (by decide)) rfl (AA.cons (AE.var 7 rfl (AA.cons (AE.sub ix_tup (AE.var 3 rfl (AE.call C2 (hr.mono (by decide)) rfl (AA.cons (AE.var 3 rfl (AA.nil ⟨OkA.d rfl rfl, r, by omega, rfl, _, rfl, ?_⟩)))))))))
          rw [hLd r hm]
          refine ⟨_, p2_ixT (ix_row (by have := hLl r hm; omega)), AA.nil ⟨OkA.d rfl rfl, kf (L.take j) i, leadV r, rfl, _, rfl, _, p2_ciii ?_, ?_⟩⟩
          · refine wide_div (b := b) ?_ ?_ (by omega) (by omega)
            · have : 0 < Int.gcd (kf (L.take j) i) (leadV r) := Int.gcd_pos_iff.mpr (.inr (by omega))
              omega
            · have h1 := RS.sm r hm (lead r)
              have h2 : Int.gcd (kf (L.take j) i) (leadV r) ≤ (leadV r).natAbs := Nat.le_of_dvd (by omega) (Nat.gcd_dvd_right _ _)
              rw [Int.natAbs_natCast]
              exact Nat.lt_of_le_of_lt h2 h1
          · exact ⟨some (dR r), by rw [et] <;> rfl⟩
      · rintro δ2 ⟨row, rfl⟩
        rw [List.length_map, List.take_length]
        obtain ⟨k0, k1⟩ := RX.kf_bd RS i L.length
        rw [List.take_length] at k0 k1
        refine Do.cons (DoS.setF 8 scKernel.nd (AF.bin op_rep (AE.lst (AA.cons (AE.int (AA.nil ⟨[.int 0], rfl, by decide, AE.var 1 rfl ⟨_, p2f_rep (by simp; omega) (by omega), ?_⟩⟩))))))
        have ez : (List.replicate n [DV.int 0]).flatten = (List.replicate n (0 : Int)).map DV.int := by
          rw [List.map_replicate]
          exact rep_one n
        rw [ez]
        refine Do.cons (DoS.putL 8 rfl (AE.var 7 rfl (AE.var 6 rfl ⟨none, (List.replicate n (0 : Int)).map DV.int, (i : Int), i, rfl, rfl, ?_, ?_⟩)))
        · unfold ixN; simp; omega
        have ez2 : ((List.replicate n (0 : Int)).map DV.int).set i (.int (kf L i)) = (fs (fun r => -at_ r i * kf L i / leadV r) (L.take 0) (zf n i (kf L i))).map DV.int := by
          rw [← List.map_set]; rfl
        rw [ez2]
        refine Do.cons (DoS.forL rfl rfl PassesOwn.never (AE.var 2 rfl ⟨_, rfl, fun j δ => ∃ row : Option DV, δ = (stK so L n row ((kerTo L n i).map dR) (some (.int i)) (some (.int (kf L i))) none).set 8 (some (.own none (.lst ((fs (fun r => -at_ r i * kf L i / leadV r) (L.take j) (zf n i (kf L i))).map DV.int)))), ⟨row, rfl⟩, ?_, ?_⟩))
        · rintro j x δ2 hx ⟨row, rfl⟩
          obtain ⟨r, hrr, rfl⟩ := map_get hx
          have hm := List.mem_of_getElem? hrr
          have hrl := hLn r hm
          have lv := (RS.lv r hm).1
          have et := RX.fs_take (g := fun r => -at_ r i * kf L i / leadV r) (v := zf n i (kf L i)) hrr
          refine ⟨[3], AG.name 3 scKernel.nd ?_⟩
          refine Do.one (DoS.putL 8 rfl (AE.bin op_fdivW (AE.bin op_mulW (AE.un un_neg (AE.sub ix_tup (AE.var 3 rfl (AE.var 6 rfl ⟨_, p2_ixT (ix_row (by omega)), _, p1_neg, AE.var 7 rfl ⟨_, p2_ciii ?_, AE.sub ix_tup (AE.var 3 rfl (AE.call C2 (hr.mono (by decide)) rfl (AA.cons (AE.var 3 rfl (AA.nil ⟨OkA.d rfl rfl, r, by omega, rfl, _, rfl, ?_⟩)))))⟩⟩)))))))
          · exact wide_mul (a := b) (b := 8 * b + 1) (by rw [Int.natAbs_neg]; exact RS.sm r hm _) k1 (by omega) (by omega) (by omega)
          rw [hLd r hm]
          refine ⟨_, p2_ixT (ix_row (by have := hLl r hm; omega)), _, p2_ciii ?_, ?_⟩
          · refine wide_div (b := b) ?_ ?_ (by omega) (by omega)
            · exact lv
            · exact RS.sm r hm _
          refine AE.call C2 (hr.mono (by decide)) rfl (AA.cons (AE.var 3 rfl (AA.nil ⟨OkA.d rfl rfl, r, by omega, rfl, _, rfl, ?_⟩)))
          rw [hLd r hm]
          refine ⟨none, _, (lead r : Int), lead r, rfl, rfl, ?_, some (dR r), ?_⟩
          · have := hLl r hm
            unfold ixN
            rw [List.length_map, RX.fs_len]
            simp [zf]; omega
          · rw [et, ← List.map_set] <;> rfl
        · rintro δ2 ⟨row, rfl⟩
          rw [List.length_map, List.take_length]
          refine Do.one (DoS.expr (AE.append 5 rfl (AE.call C4 (hr.mono (by decide)) rfl (AA.cons (AE.bt call_tuple_of mt (by decide +kernel) (AA.cons (AE.frz 8 rfl (AA.nil ⟨[.lst _], _, rfl, pcn_tuple (.inl rfl), AA.nil ⟨OkA.d rfl rfl, kv n i (kf L i) L, ?_, ?_, rfl, _, rfl, none, (kerTo L n i).map dR, rfl, ?_, ?_⟩⟩))))))))
          · rw [RX.kv_len]; omega
          · exact RX.Sm.of (RX.kv_sm RS i) (by unfold RX.big; omega)
          · rw [List.length_map]; omega
          · refine ⟨row, some (.int i), some (.int (kf L i)), some (.lst ((kv n i (kf L i) L).map DV.int)), ?_⟩
            rw [ek, List.map_append]; rfl
    · rw [if_neg hf] at ek ⊢
      exact Do.nil ⟨row, some (.int i), fa, va, by rw [ek] <;> rfl⟩
  · rintro δ2 ⟨row, fr, fa, va, rfl⟩
    rw [rngD_len, Int.toNat_natCast]
    exact Do.one (DoS.ret (AE.frz 5 rfl (fin0 rfl hk)))
end
end K21
/-! The walk of the class Space. -/
namespace K21
open PySem PySem.Spec PyProof.Rows L2 Evl AX
open RX (at_ prim gcdL lead isZ isZb redF wo addR redR leadV kerR)
abbrev sIter : Stmt := topS 17
abbrev sSpInit : Stmt := inClass (topS 18) 0
abbrev sSpRows : Stmt := inClass (topS 18) 2
abbrev sSpLen : Stmt := inClass (topS 18) 3
abbrev sSpIn : Stmt := inClass (topS 18) 5
abbrev sSpEq : Stmt := inClass (topS 18) 6
abbrev sSpCheck : Stmt := inClass (topS 18) 7
abbrev sSpOr : Stmt := inClass (topS 18) 8
abbrev sSpWithin : Stmt := inClass (topS 18) 9
theorem scIter : FnScope ["width", "rows"] ["width", "rows"] (defScope sIter) := ⟨rfl, rfl, rfl, by decide +kernel, rfl, by decide +kernel, by decide +kernel⟩
theorem scSpInit : FnScope ["self", "width", "rows"] ["self", "width", "rows"] (defScope sSpInit) := ⟨rfl, rfl, rfl, by decide +kernel, rfl, by decide +kernel, by decide +kernel⟩
theorem scSpRows : FnScope ["self"] ["self"] (defScope sSpRows) := ⟨rfl, rfl, rfl, by decide +kernel, rfl, by decide +kernel, by decide +kernel⟩
theorem scSpLen : FnScope ["self"] ["self"] (defScope sSpLen) := ⟨rfl, rfl, rfl, by decide +kernel, rfl, by decide +kernel, by decide +kernel⟩
theorem scSpIn : FnScope ["self", "value"] ["self", "value"] (defScope sSpIn) := ⟨rfl, rfl, rfl, by decide +kernel, rfl, by decide +kernel, by decide +kernel⟩
theorem scSpEq : FnScope ["self", "other"] ["self", "other"] (defScope sSpEq) := ⟨rfl, rfl, rfl, by decide +kernel, rfl, by decide +kernel, by decide +kernel⟩
theorem scSpCheck : FnScope ["self", "other"] ["self", "other"] (defScope sSpCheck) := ⟨rfl, rfl, rfl, by decide +kernel, rfl, by decide +kernel, by decide +kernel⟩
theorem scSpOr : FnScope ["self", "other"] ["self", "other"] (defScope sSpOr) := ⟨rfl, rfl, rfl, by decide +kernel, rfl, by decide +kernel, by decide +kernel⟩
theorem scSpWithin : FnScope ["self", "other", "row"] ["self", "other"] (defScope sSpWithin) := ⟨rfl, rfl, rfl, by decide +kernel, rfl, by decide +kernel, by decide +kernel⟩
/-- the class as the text has made it -/
structure SpaceK (S : Sig) (mg : Str → Option Value) : Prop where
  fl : S.flds 0 = [("length" : Str), ("basis" : Str)]
  ic : IsCls S.K (S.cls 0)
  nl : NoAttr S.K (S.cls 0) "length"
  nb : NoAttr S.K (S.cls 0) "basis"
  gl : mg "Space" = some (.ref (S.cls 0))
  sf : PySem.W.selfFirst S.K (S.cls 0) = true
  nf : PySem.W.notFirst S.K (S.cls 0) (.ref (S.cls 0)) = true
/-- a Space: how wide, its rows -/
abbrev dSp (n : Nat) (L : List RX.Row) : DV := .ob 0 [.int n, dRs L]
section
variable {P : Program} {w : World} {S : Sig} {mg : Str → Option Value} {base : Heap}
theorem SpaceK.len (T : SpaceK S mg) {n : Nat} {L : List RX.Row} : ((S.flds 0).zip [DV.int n, dRs L]).lookup ("length" : Str) = some (.int n) := by rw [T.fl]; rfl
theorem SpaceK.bas (T : SpaceK S mg) {n : Nat} {L : List RX.Row} : ((S.flds 0).zip [DV.int n, dRs L]).lookup ("basis" : Str) = some (dRs L) := by rw [T.fl]; rfl
def W_iter : AW1 := fun avs k => ∃ (ro : List RX.Row) (n : Nat), 1 ≤ n ∧ n ≤ 1000 ∧ ro.length ≤ 1000 ∧ (∀ r ∈ ro, r.length = n) ∧ RX.SmR [] ro ∧ avs = [.imm (.int n), .imm (dRs ro)] ∧ k [] (.imm (dRs (redR ro)))
theorem ok_iter {f : Addr} {fd : FuncData} (F : L2.Fun S.K "iter_rows" "iter_rows" sIter f fd) (C1 : Can P w mg base S 1 "is_integer" ["value"] W_isint) (C2 : Can P w mg base S 6 "reduced" ["rows", "width"] W_reduced) : FnOk P w S.K mg base CX0 7 f fd ["width", "rows"] (spA S 2 W_iter) := by
  refine fn_ok F scIter fun cdv A outer s H E hr avs kk hl ⟨ro, n, hn1, hn, hz, hlen, hsm, ha, hk⟩ => ?_
  subst ha
  refine Do.cons (DoS.ite (AT.w (AW.or (AT.not (AT.val (AE.call C1 (hr.mono (by decide)) rfl (AA.cons (AE.var 0 rfl (AA.nil ⟨OkA.d rfl rfl, n, rfl, _, rfl, true, rfl, ?_⟩)))))))))
  rw [if_neg (by decide)]
  refine AW.or1 (AT.cmp op_lt (AE.var 0 rfl (AE.int ⟨_, p2_iib, ?_⟩)))
  rw [if_neg (by simp; omega)]
  exact Do.nil (Do.one (DoS.ret (AE.call C2 hr rfl (AA.cons (AE.var 1 rfl (AA.cons (AE.var 0 rfl (AA.nil ⟨OkA.d rfl rfl, ro, n, hn, hz, hlen, hsm, rfl, _, rfl, fin0 rfl hk⟩))))))))
def W_spinit : AW1 := fun avs k => ∃ (ro : List RX.Row) (n : Nat), 1 ≤ n ∧ n ≤ 1000 ∧ ro.length ≤ 1000 ∧ (∀ r ∈ ro, r.length = n) ∧ RX.SmR [] ro ∧ avs = [.own (some 0) (.obj 0 []), .imm (.int n), .imm (dRs ro)] ∧ k [.obj 0 [("length", .int n), ("basis", dRs (redR ro))]] (.imm .non)
theorem ok_spinit {f : Addr} {fd : FuncData} (F : L2.Fun S.K "__init__" "Space.__init__" sSpInit f fd) (T : SpaceK S mg) (C1 : Can P w mg base S 7 "iter_rows" ["width", "rows"] W_iter) : FnOk P w S.K mg base CX0 8 f fd ["self", "width", "rows"] (spA S 3 W_spinit) := by
  refine fn_ok F scSpInit fun cdv A outer s H E hr avs kk hl ⟨ro, n, hn1, hn, hz, hlen, hsm, ha, hk⟩ => ?_
  subst ha
  refine Do.cons (DoS.setFld 0 rfl T.ic.cl T.nl rfl (AE.var 1 rfl ⟨some 0, [], rfl, by decide, ?_⟩))
  refine Do.one (DoS.setFld 0 rfl T.ic.cl T.nb rfl (AE.call C1 hr rfl (AA.cons (AE.var 1 rfl (AA.cons (AE.var 2 rfl (AA.nil ⟨OkA.d rfl rfl, ro, n, hn1, hn, hz, hlen, hsm, rfl, _, rfl, some 0, _, rfl, by (show 1 < 1000); decide, ?_⟩)))))))
  exact ⟨[.obj 0 [("length", .int n), ("basis", dRs (redR ro))]], fun j o z => by
    cases j with
    | zero => simp at z; subst z; exact ⟨0, rfl⟩
    | succ j => simp at z, rfl, hk⟩
def W_sprows : AW1 := fun avs k => ∃ (L : List RX.Row) (n : Nat), L.length ≤ 1000 ∧ avs = [.imm (dSp n L)] ∧ k [] (.imm (dRs L))
theorem ok_sprows {f : Addr} {fd : FuncData} (F : L2.Fun S.K "rows" "Space.rows" sSpRows f fd) (T : SpaceK S mg) (ml : mg "list" = none) : FnOk P w S.K mg base CX0 1 f fd ["self"] (spA S 1 W_sprows) := by
  refine fn_ok F scSpRows fun cdv A outer s H E hr avs kk hl ⟨L, n, hz, ha, hk⟩ => ?_
  subst ha
  exact Do.one (DoS.ret (AF.imm (AF.bt call_list_of ml (by decide +kernel) (AA.cons (AE.fld rfl T.ic.cl T.nb (AE.var 0 rfl ⟨_, _, rfl, T.bas, AA.nil ⟨[dRs L], _, rfl, pcf_list rfl, _, rfl, fin0 rfl hk⟩⟩))))))
def W_splen : AW1 := fun avs k => ∃ (L : List RX.Row) (n : Nat), L.length ≤ 1000 ∧ avs = [.imm (dSp n L)] ∧ k [] (.imm (.int L.length))
theorem ok_splen {f : Addr} {fd : FuncData} (F : L2.Fun S.K "__len__" "Space.__len__" sSpLen f fd) (T : SpaceK S mg) (ml : mg "len" = none) : FnOk P w S.K mg base CX0 1 f fd ["self"] (spA S 1 W_splen) := by
  refine fn_ok F scSpLen fun cdv A outer s H E hr avs kk hl ⟨L, n, hz, ha, hk⟩ => ?_
  subst ha
  refine Do.one (DoS.ret (AE.bi call_len_seq ml PySem.boot_len (AA.cons (AE.fld rfl T.ic.cl T.nb (AE.var 0 rfl ⟨_, _, rfl, T.bas, AA.nil ⟨[dRs L], _, rfl, (pc_len rfl).n, fin0 rfl ?_⟩⟩)))))
  rw [List.length_map]; exact hk
/-- whether a row lies in a Space's span, as the text asks it -/
def inB (L : List RX.Row) (r : RX.Row) : Bool := isZb (prim (redF L r))
def W_spin : AW1 := fun avs k => ∃ (L : List RX.Row) (r : RX.Row) (n : Nat), n ≤ 1000 ∧ L.length ≤ 1000 ∧ (∀ o ∈ L, o.length = n ∧ ¬ isZ o) ∧ r.length = n ∧ RX.SmF L r ∧ avs = [.imm (dSp n L), .imm (dR r)] ∧ k [] (.imm (.bl (inB L r)))
theorem ok_spin {f : Addr} {fd : FuncData} (F : L2.Fun S.K "__contains__" "Space.__contains__" sSpIn f fd) (T : SpaceK S mg) (C1 : Can P w mg base S 2 "is_row" ["value", "width"] W_isrow) (C2 : Can P w mg base S 1 "lead" ["row"] W_lead) (C3 : Can P w mg base S 4 "reduced_by" ["rows", "row"] W_redby) : FnOk P w S.K mg base CX0 5 f fd ["self", "value"] (spA S 2 W_spin) := by
  refine fn_ok F scSpIn fun cdv A outer s H E hr avs kk hl ⟨L, r, n, hn, hz, hL, hrl, hsm, ha, hk⟩ => ?_
  subst ha
  refine Do.one (DoS.ret (AE.and ?_))
  refine AE.call C1 (hr.mono (by decide)) rfl (AA.cons (AE.var 1 rfl (AA.cons (AE.fld rfl T.ic.cl T.nl (AE.var 0 rfl ⟨_, _, rfl, T.len, AA.nil ⟨OkA.d rfl rfl, r, by omega, ?_, _, rfl, true, rfl, ?_⟩⟩)))))
  · rw [← hrl]; rfl
  rw [if_pos rfl]
  have hl2 : (prim (redF L r)).length = n := by rw [RX.prim_len]; exact RX.redF_len (fun o h => (hL o h).1) hrl
  refine AE.one (AE.cmp op_isN (AE.call C2 (hr.mono (by decide)) rfl (AA.cons (AE.call C3 hr rfl (AA.cons (AE.fld rfl T.ic.cl T.nb (AE.var 0 rfl ⟨_, _, rfl, T.bas, AA.cons (AE.var 1 rfl (AA.nil ⟨OkA.d rfl rfl, L, r, n, hn, hz, hL, hrl, hsm, rfl, _, rfl, AA.nil ⟨OkA.d rfl rfl, prim (redF L r), by omega, rfl, _, rfl, AE.non ?_⟩⟩))⟩)))))))
  unfold dLead
  unfold inB at hk
  by_cases h : isZb (prim (redF L r)) = true
  · rw [if_pos h]
    rw [h] at hk
    exact ⟨_, p2_isN, fin0 rfl hk⟩
  · rw [if_neg h]
    have h : isZb (prim (redF L r)) = false := by simpa using h
    rw [h] at hk
    exact ⟨_, p2_isF rfl, fin0 rfl hk⟩
end
end K21
/-! The walk of the class Space, what takes another Space. -/
namespace K21
open PySem PySem.Spec PyProof.Rows L2 Evl AX
open RX (at_ prim gcdL lead isZ isZb redF wo addR redR leadV kerR)
section
variable {P : Program} {w : World} {S : Sig} {mg : Str → Option Value} {base : Heap}
/-- == of two Spaces that are alike -/
def W_speq : AW1 := fun avs k => ∃ (L : List RX.Row) (n : Nat), avs = [.imm (dSp n L), .imm (dSp n L)] ∧ k [] (.imm (.bl true))
theorem ok_speq {f : Addr} {fd : FuncData} (F : L2.Fun S.K "__eq__" "Space.__eq__" sSpEq f fd) (T : SpaceK S mg) (mi : mg "isinstance" = none) : FnOk P w S.K mg base CX0 1 f fd ["self", "other"] (spA S 2 W_speq) := by
  refine fn_ok F scSpEq fun cdv A outer s H E hr avs kk hl ⟨L, n, ha, hk⟩ => ?_
  subst ha
  refine Do.one (DoS.ret (AE.and ?_))
  refine AE.bi call_isi mi (by decide +kernel) (AA.cons (AE.var 1 rfl (AA.cons (AE.glob (v := .ref (S.cls 0)) T.gl rfl (AA.nil ⟨[dSp n L, .raw (.ref (S.cls 0))], _, rfl, pcn_isiOb T.ic, true, rfl, ?_⟩)))))
  rw [if_pos rfl]
  refine AE.and (AE.cmp op_eq (AE.fld rfl T.ic.cl T.nl (AE.var 0 rfl ⟨_, _, rfl, T.len, AE.fld rfl T.ic.cl T.nl (AE.var 1 rfl ⟨_, _, rfl, T.len, _, p2_eqI, _, rfl, ?_⟩)⟩)))
  rw [if_pos (by simp)]
  refine AE.one (AE.cmp (op_eqD hr.units) (AE.fld rfl T.ic.cl T.nb (AE.var 0 rfl ⟨_, _, rfl, T.bas, AE.fld rfl T.ic.cl T.nb (AE.var 1 rfl ⟨_, _, rfl, T.bas, _, p2_eqRows, fin0 rfl ?_⟩)⟩)))
  rw [decide_eq_true rfl]; exact hk
def W_spcheck : AW1 := fun avs k => ∃ (L M : List RX.Row) (n : Nat), avs = [.imm (dSp n L), .imm (dSp n M)] ∧ k [] (.imm .non)
theorem ok_spcheck {f : Addr} {fd : FuncData} (F : L2.Fun S.K "check" "Space.check" sSpCheck f fd) (T : SpaceK S mg) (mi : mg "isinstance" = none) : FnOk P w S.K mg base CX0 1 f fd ["self", "other"] (spA S 2 W_spcheck) := by
  refine fn_ok F scSpCheck fun cdv A outer s H E hr avs kk hl ⟨L, M, n, ha, hk⟩ => ?_
  subst ha
  refine Do.one (DoS.ite (AT.w (AW.or (AT.not (AT.val (AE.bi call_isi mi (by decide +kernel) (AA.cons (AE.var 1 rfl (AA.cons (AE.glob (v := .ref (S.cls 0)) T.gl rfl (AA.nil ⟨[dSp n M, .raw (.ref (S.cls 0))], _, rfl, pcn_isiOb T.ic, true, rfl, ?_⟩)))))))))))
  rw [if_neg (by decide)]
  refine AW.or1 (AT.cmp op_ne (AE.fld rfl T.ic.cl T.nl (AE.var 1 rfl ⟨_, _, rfl, T.len, AE.fld rfl T.ic.cl T.nl (AE.var 0 rfl ⟨_, _, rfl, T.len, _, p2_neI, ?_⟩)⟩)))
  rw [if_neg (by simp)]
  exact Do.nil ⟨[], fun j o z => by simp at z, rfl, hk⟩
def W_spor : AW1 := fun avs k => ∃ (L M : List RX.Row) (n : Nat), 1 ≤ n ∧ n ≤ 1000 ∧ L.length + M.length ≤ 1000 ∧ (∀ r ∈ L ++ M, r.length = n) ∧ RX.SmR [] (L ++ M) ∧ avs = [.imm (dSp n L), .imm (dSp n M)] ∧ k [] (.imm (dSp n (redR (L ++ M))))
theorem ok_spor {f : Addr} {fd : FuncData} (F : L2.Fun S.K "__or__" "Space.__or__" sSpOr f fd) (T : SpaceK S mg) (C1 : CanM P w mg base S 1 0 "check" ["self", "other"] W_spcheck) (C2 : CanC P w mg base S 8 "Space" 0 ["self", "width", "rows"] W_spinit) : FnOk P w S.K mg base CX0 10 f fd ["self", "other"] (spA S 2 W_spor) := by
  refine fn_ok F scSpOr fun cdv A outer s H E hr avs kk hl ⟨L, M, n, hn1, hn, hz, hlen, hsm, ha, hk⟩ => ?_
  subst ha
  refine Do.cons (DoS.expr (AE.meth C1 T.ic.cl (by rw [T.fl]; rfl) (hr.mono (by decide)) rfl (AE.var 0 rfl ⟨_, rfl, AA.cons (AE.var 1 rfl (AA.nil ⟨OkA.d rfl rfl, L, M, n, rfl, _, rfl, ?_⟩))⟩)))
  refine Do.one (DoS.ret (AE.make C2 hr rfl (AA.cons (AE.fld rfl T.ic.cl T.nl (AE.var 0 rfl ⟨_, _, rfl, T.len, ?_⟩)))))
  refine AA.cons (AF.imm (AF.bin op_cat (AE.fld rfl T.ic.cl T.nb (AE.var 0 rfl ⟨_, _, rfl, T.bas, AE.fld rfl T.ic.cl T.nb (AE.var 1 rfl ⟨_, _, rfl, T.bas, _, p2f_cat (by simpa using (by omega : L.length + M.length ≤ 100000)), _, rfl, ?_⟩)⟩))))
  refine AA.nil ⟨[.int n, .lst (L.map dR ++ M.map dR)], rfl, rfl, L ++ M, n, hn1, hn, by rw [List.length_append]; exact hz, hlen, hsm, ?_, _, rfl, rfl, T.fl.symm, fin0 rfl hk⟩
  rw [← List.map_append]; rfl
def W_spwithin : AW1 := fun avs k => ∃ (L M : List RX.Row) (n : Nat), n ≤ 1000 ∧ L.length ≤ 1000 ∧ M.length ≤ 1000 ∧ (∀ o ∈ M, o.length = n ∧ ¬ isZ o) ∧ (∀ r ∈ L, r.length = n ∧ RX.SmF M r) ∧ avs = [.imm (dSp n L), .imm (dSp n M)] ∧ k [] (.imm (.bl (L.all fun r => inB M r)))
theorem ok_spwithin {f : Addr} {fd : FuncData} (F : L2.Fun S.K "is_within" "Space.is_within" sSpWithin f fd) (T : SpaceK S mg) (C1 : CanM P w mg base S 1 0 "check" ["self", "other"] W_spcheck) (C2 : CanM P w mg base S 5 0 "__contains__" ["self", "value"] W_spin) (ma : mg "all" = none) : FnOk P w S.K mg base CX0 6 f fd ["self", "other"] (spA S 2 W_spwithin) := by
  refine fn_ok F scSpWithin fun cdv A outer s H E hr avs kk hl ⟨L, M, n, hn, hz1, hz2, hM, hL, ha, hk⟩ => ?_
  subst ha
  refine Do.cons (DoS.expr (AE.meth C1 T.ic.cl (by rw [T.fl]; rfl) (hr.mono (by decide)) rfl (AE.var 0 rfl ⟨_, rfl, AA.cons (AE.var 1 rfl (AA.nil ⟨OkA.d rfl rfl, L, M, n, rfl, _, rfl, ?_⟩))⟩)))
  refine Do.one (DoS.ret (AE.bi (cr_all rfl) ma (by decide +kernel) (AA.cons (AF.imm (AF.lcL [("row", 2)] rfl scSpWithin.nd rfl (blkOk_by (N := ["self", "other", "row"]) (sc := defScope sSpWithin) (by decide +kernel)) (AE.fld rfl T.ic.cl T.nb (AE.var 0 rfl ⟨_, _, rfl, T.bas, _, rfl, Comp.to [2] ((L.map fun r => inB M r).map DV.bl) (by decide) (by simp) (by simp; omega) (noOwn rfl) ?_ ?_⟩)))))))
  · intro i x y hx hy s0 H0 C0 cl fp
    obtain ⟨r, hrr, rfl⟩ := map_get hx
    have hm := List.mem_of_getElem? hrr
    have ey : y = .bl (inB M r) := by rw [List.map_map, List.getElem?_map, hrr] at hy; exact (Option.some.inj hy).symm
    refine AG.name 2 scSpWithin.nd fun s0 H0 C0 cl fp => ATs.nil ⟨rfl, fun s0 H0 C0 cl fp => ?_⟩
    exact AT.inOb C2 rfl hr rfl (AE.var 2 rfl (AE.var 1 rfl ⟨_, rfl, M, r, n, hn, hz2, hM, (hL r hm).1, (hL r hm).2, rfl, _, rfl, rfl, ey.symm⟩))
  · refine ⟨_, rfl, AA.nil ⟨[.lst _], _, rfl, (pc_all rfl).n, fin0 rfl ?_⟩⟩
    have : (L.map fun r => inB M r).all id = L.all fun r => inB M r := by rw [List.all_map]; rfl
    rw [this]; exact hk
end
end K21
/-! Kernels of kernels, common parts of spans, and how many rows they have. -/
namespace RX
theorem orth_sym {w : Nat} {f g : Nat → Int} : sumN (fun i => f i * g i) w = sumN (fun i => g i * f i) w := sumN_congr fun i _ => Int.mul_comm _ _
theorem lin_cons {M : List Row} {r : Row} {f : Nat → Int} (h : Lin (r :: M) f) : ∃ (c : Int) (g : Nat → Int), Lin M g ∧ ∀ i, f i = g i + c * at_ r i := by
  induction h with
  | zero => exact ⟨0, _, .zero, fun i => by simp⟩
  | mem hm =>
    rcases List.mem_cons.mp hm with rfl | hm
    · exact ⟨1, _, .zero, fun i => by simp⟩
    · exact ⟨0, _, .mem hm, fun i => by simp⟩
  | add _ _ a b =>
    obtain ⟨c, g, h1, h2⟩ := a
    obtain ⟨d, k, h3, h4⟩ := b
    exact ⟨c + d, _, h1.add h3, fun i => by show _ + _ = _ + _ + _; rw [h2, h4, Int.add_mul]; omega⟩
  | smul q _ a =>
    obtain ⟨c, g, h1, h2⟩ := a
    exact ⟨q * c, _, h1.smul q, fun i => by show q * _ = q * _ + _; rw [h2, Int.mul_add, Int.mul_assoc]⟩
theorem in_cons {M : List Row} {r : Row} {f : Nat → Int} (h : InS (r :: M) f) : ∃ (q c : Int), q ≠ 0 ∧ InS M (fun i => q * f i + c * at_ r i) := by
  obtain ⟨q, q0, hl⟩ := h
  obtain ⟨c, g, h1, h2⟩ := lin_cons hl
  exact ⟨q, -c, q0, (InS.of h1).congr fun i => by rw [h2, Int.neg_mul]; omega⟩
theorem addR_grow {w : Nat} {L : List Row} {r : Row} (R : Red w L) (hr : r.length = w) (h : ¬ InS L (at_ r)) : (addR L r).length = L.length + 1 := by
  have hnz : ¬ isZb (prim (redF L r)) = true := fun z => h (by
    have e : addR L r = L := by unfold addR; rw [if_pos z]
    have := (addR_span R hr).2 r (by simp)
    rwa [e] at this)
  unfold addR
  rw [if_neg hnz, (ins_perm _ _).length_eq]; simp
theorem van_in {L : List Row} {f : Nat} (h : ∀ r ∈ L, at_ r f = 0) {x : Nat → Int} (hx : InS L x) : x f = 0 := by
  have key : ∀ {g : Nat → Int}, Lin L g → g f = 0 := fun {g} hg => by
    induction hg with
    | zero => rfl
    | mem hm => exact h _ hm
    | add _ _ a b => show _ + _ = (0 : Int); rw [a, b]; rfl
    | smul c _ a => show c * _ = (0 : Int); rw [a, Int.mul_zero]
  obtain ⟨q, q0, hl⟩ := hx
  exact (Int.mul_eq_zero.mp (key hl)).resolve_left q0
section
variable {w : Nat} {L : List Row}
theorem kr_free (R : Red w L) {f g : Nat} (hf : f < w ∧ Free L f) (hg : Free L g) (ne : g ≠ f) : at_ (kr L w f) g = 0 := by
  refine (prim_at_zero _).mpr ?_
  unfold kv
  exact fs_other hf.1 hg ne
theorem kr_self (R : Red w L) {f : Nat} (hf : f < w ∧ Free L f) : at_ (kr L w f) f ≠ 0 := fun z => by
  have := (prim_at_zero _).mp z
  rw [kv_free hf.1 hf.2] at this
  have := kf_pos R f
  omega
theorem kerR_map : kerR L w = (frees L w).map (kr L w) := rfl
theorem ker_rank (R : Red w L) : (redR (kerR L w)).length + L.length = w := by
  have nd : (frees L w).Nodup := List.nodup_range.filter _
  have key : ∀ {G F : List Nat}, F ++ G = frees L w → (redR ((F ++ G).map (kr L w))).length = (redR (F.map (kr L w))).length + G.length := fun {G} => by
    induction G with
    | nil => intro F _; simp
    | cons g G ih =>
      intro F e
      have ih := ih (F := F ++ [g]) (by rw [← e]; simp)
      have e2 : F ++ [g] ++ G = F ++ g :: G := by simp
      rw [e2] at ih
      rw [ih]
      have hP : ∀ k ∈ F.map (kr L w), k.length = w := fun k hk => by obtain ⟨f, _, rfl⟩ := List.mem_map.mp hk; exact kr_len
      have hg : g < w ∧ Free L g := mem_frees.mp (by rw [← e]; simp)
      have : redR ((F ++ [g]).map (kr L w)) = addR (redR (F.map (kr L w))) (kr L w g) := by
        unfold redR
        rw [List.map_append, List.foldl_append]; rfl
      rw [this, addR_grow (redR_red hP) kr_len fun z => ?_, List.length_cons]
      · omega
      · refine kr_self R hg (van_in (L := F.map (kr L w)) (fun r hr => ?_) (z.trans (in_redR hP)))
        obtain ⟨f, hf, rfl⟩ := List.mem_map.mp hr
        have hff : f < w ∧ Free L f := mem_frees.mp (by rw [← e]; simp [hf])
        refine kr_free R hff hg.2 fun z => ?_
        rw [← e, List.nodup_append] at nd
        exact nd.2.2 f hf g (by simp) z.symm
  have h := key (F := []) (G := frees L w) rfl
  have c := frees_count R
  have : kerR L w = ([] ++ frees L w).map (kr L w) := rfl
  rw [this, h]
  show 0 + _ + _ = _
  omega
/-- what has the product 0 with the rows is spanned by the kernel -/
theorem perp_in (R : Red w L) {x : Nat → Int} (hx : ∀ r ∈ L, sumN (fun i => x i * at_ r i) w = 0) (h0 : ∀ i, w ≤ i → x i = 0) : InS (kerR L w) x :=
  ker_in R (F := frees L w) (fun f hf => mem_frees.mp hf) hx h0 fun i hi hf hn => absurd (mem_frees.mpr ⟨hi, hf⟩) hn
/-- and back -/
theorem perp2 (R : Red w L) {x : Row} (hl : x.length = w) (hx : ∀ k ∈ kerR L w, sumN (fun i => at_ x i * at_ k i) w = 0) : InS L (at_ x) := by
  have hL : ∀ o ∈ L, o.length = w ∧ ¬ isZ o := fun o ho => ⟨(R.each o ho).2, R.nz o ho⟩
  have hz := (redF_zero (fun o h => (R.each o h).2) R.lt hl).1
  have hy : InS (x :: L) (at_ (redF L x)) := (redF_in hL hl fun o ho => .mem (by simp [ho])).mpr (.mem (by simp))
  have hyl : (redF L x).length = w := redF_len (fun o h => (R.each o h).2) hl
  have hyk : ∀ k ∈ kerR L w, sumN (fun i => at_ k i * at_ (redF L x) i) w = 0 := fun k hk => orth_in (R := x :: L) (fun r hr => by
    rcases List.mem_cons.mp hr with rfl | hr
    · rw [orth_sym]; exact hx k hk
    · exact kerR_orth0 R hk r hr) hy
  have z : ∀ i, at_ (redF L x) i = 0 := fun i => by
    by_cases hi : i < w
    · by_cases hf : Free L i
      · have h1 := hyk _ (List.mem_map.mpr ⟨i, mem_frees.mpr ⟨hi, hf⟩, rfl⟩)
        rw [sumN_two (a := i) (b := w) (by omega) fun j hj n1 n2 => ?_, if_pos hi, if_neg (by omega), Int.add_zero] at h1
        · exact (Int.mul_eq_zero.mp h1).resolve_left (kr_self R ⟨hi, hf⟩)
        · by_cases hfj : Free L j
          · have := kr_free R ⟨hi, hf⟩ hfj n1
            show at_ (kr L w i) j * _ = 0
            rw [this, Int.zero_mul]
          · have : ∃ r ∈ L, lead r = j := Classical.byContradiction fun n => hfj fun r hr e => n ⟨r, hr, e⟩
            obtain ⟨r, hr, rfl⟩ := this
            rw [hz r hr, Int.mul_zero]
      · have : ∃ r ∈ L, lead r = i := Classical.byContradiction fun n => hf fun r hr e => n ⟨r, hr, e⟩
        obtain ⟨r, hr, rfl⟩ := this
        exact hz r hr
    · exact at_ge (by omega)
  exact (redF_in hL hl fun o ho => .mem ho).mp (InS.zero z)
/-- the kernel of the kernel -/
theorem ker_ker (R : Red w L) : redR (kerR (redR (kerR L w)) w) = L := by
  have hK : ∀ k ∈ kerR L w, k.length = w := kerR_len
  have RK := redR_red hK
  have hKK : ∀ k ∈ kerR (redR (kerR L w)) w, k.length = w := kerR_len
  refine (redR_red hKK).unique R (fun r hr => ?_) fun r hr => ?_
  · refine (in_redR hKK r hr).trans fun k hk => perp2 R (hKK k hk) fun j hj => ?_
    exact orth_in (fun s hs => kerR_orth0 RK hk s hs) (redR_in hK j hj)
  · have hrl := (R.each r hr).2
    refine (perp_in RK (fun s hs => ?_) fun i hi => at_ge (by omega)).trans (redR_in hKK)
    exact orth_in (R := kerR L w) (fun k hk => by rw [orth_sym]; exact kerR_orth0 R hk r hr) (in_redR hK s hs)
end
/-- the two spans' common part, by kernels -/
def comR (LA LB : List Row) (w : Nat) : List Row := redR (kerR (redR (redR (kerR LA w) ++ redR (kerR LB w))) w)
section
variable {w : Nat} {LA LB : List Row}
theorem joinK_len : ∀ k ∈ redR (kerR LA w) ++ redR (kerR LB w), k.length = w := fun k hk => by
  rcases List.mem_append.mp hk with h | h
  · exact ((redR_red (w := w) kerR_len).each k h).2
  · exact ((redR_red (w := w) kerR_len).each k h).2
theorem com_in (RA : Red w LA) (RB : Red w LB) : ∀ d ∈ comR LA LB w, InS LA (at_ d) ∧ InS LB (at_ d) := fun d hd => by
  have RJ := redR_red (w := w) (joinK_len (LA := LA) (LB := LB))
  have hK : ∀ k ∈ kerR (redR (redR (kerR LA w) ++ redR (kerR LB w))) w, k.length = w := kerR_len
  have hdk := in_redR hK d hd
  have one : ∀ {L : List Row} (R : Red w L), (∀ j ∈ redR (kerR L w), j ∈ redR (kerR LA w) ++ redR (kerR LB w)) → InS L (at_ d) := fun {L} R hsub => by
    refine hdk.trans fun k hk => perp2 R (hK k hk) fun j hj => ?_
    refine orth_in (fun s hs => kerR_orth0 RJ hk s hs) ?_
    exact (redR_in (w := w) kerR_len j hj).trans fun u hu => redR_in joinK_len u (hsub u hu)
  exact ⟨one RA fun j hj => by simp [hj], one RB fun j hj => by simp [hj]⟩
theorem in_com (RA : Red w LA) (RB : Red w LB) {x : Nat → Int} (hA : InS LA x) (hB : InS LB x) (h0 : ∀ i, w ≤ i → x i = 0) : InS (comR LA LB w) x := by
  have RJ := redR_red (w := w) (joinK_len (LA := LA) (LB := LB))
  have hK : ∀ k ∈ kerR (redR (redR (kerR LA w) ++ redR (kerR LB w))) w, k.length = w := kerR_len
  refine (perp_in RJ (fun s hs => ?_) h0).trans (redR_in hK)
  refine orth_in (R := redR (kerR LA w) ++ redR (kerR LB w)) (fun j hj => ?_) (in_redR joinK_len s hs)
  have one : ∀ {L : List Row} (R : Red w L), InS L x → j ∈ redR (kerR L w) → sumN (fun i => x i * at_ j i) w = 0 := fun {L} R hx hj => by
    refine orth_in (R := kerR L w) (fun k hk => ?_) (in_redR (w := w) kerR_len j hj)
    rw [orth_sym]
    exact orth_in (fun r hr => kerR_orth0 R hk r hr) hx
  rcases List.mem_append.mp hj with h | h
  · exact one RA hA h
  · exact one RB hB h
theorem grow_same {LB : List Row} : ∀ {rs L M : List Row}, Red w L → Red w M → (∀ r ∈ L, InS M (at_ r)) → (∀ x : Nat → Int, InS LB x → InS M x → (∀ i, w ≤ i → x i = 0) → InS L x) → (∀ r ∈ L, InS LB (at_ r)) → (∀ r ∈ rs, r.length = w ∧ InS LB (at_ r)) →
    (rs.foldl addR L).length + M.length = (rs.foldl addR M).length + L.length
  | [], L, M, _, _, _, _, _, _ => Nat.add_comm _ _
  | r :: rs, L, M, RL, RM, h1, h2, h3, h4 => by
    obtain ⟨hl, hr⟩ := h4 r (by simp)
    have r0 : ∀ i, w ≤ i → at_ r i = 0 := fun i hi => at_ge (by omega)
    rw [List.foldl_cons, List.foldl_cons]
    by_cases q : InS L (at_ r)
    · rw [addR_in RL hl q, addR_in RM hl (q.trans h1)]
      exact grow_same RL RM h1 h2 h3 fun x hx => h4 x (by simp [hx])
    · have qm : ¬ InS M (at_ r) := fun z => q (h2 _ hr z r0)
      have e1 := addR_grow RL hl q
      have e2 := addR_grow RM hl qm
      obtain ⟨a1, a2⟩ := addR_span RL hl
      obtain ⟨b1, b2⟩ := addR_span RM hl
      have := grow_same (LB := LB) (rs := rs) (addR_red RL hl) (addR_red RM hl) (fun x hx => (a1 x hx).trans fun y hy => by
        rcases List.mem_cons.mp hy with rfl | hy
        · exact b2 _ (by simp)
        · exact (h1 y hy).trans fun z hz => b2 z (by simp [hz])) (fun x hB hM h0 => by
        obtain ⟨q, c, q0, hm⟩ := in_cons (hM.trans b1)
        have hL := h2 _ (hB.lin hr q c) hm fun i hi => by rw [h0 i hi, r0 i hi]; simp
        have hL' : InS (addR L r) (fun i => q * x i + c * at_ r i) := hL.trans fun y hy => a2 y (by simp [hy])
        refine (hL'.lin (a2 r (by simp)) 1 (-c)).div q q0 fun i => ?_
        show q * x i = 1 * (q * x i + c * at_ r i) + -c * at_ r i
        rw [Int.neg_mul]; omega) (fun x hx => (a1 x hx).trans fun y hy => by
        rcases List.mem_cons.mp hy with rfl | hy
        · exact hr
        · exact h3 y hy) fun x hx => h4 x (by simp [hx])
      omega
/-- how many rows the common part has -/
theorem com_rank (RA : Red w LA) (RB : Red w LB) : (comR LA LB w).length + (redR (LA ++ LB)).length = LA.length + LB.length := by
  have hc : ∀ k ∈ kerR (redR (redR (kerR LA w) ++ redR (kerR LB w))) w, k.length = w := kerR_len
  have RD : Red w (comR LA LB w) := redR_red hc
  have hci := com_in RA RB
  have lB : ∀ r ∈ LB, r.length = w := fun r hr => (RB.each r hr).2
  have lA : ∀ r ∈ LA, r.length = w := fun r hr => (RA.each r hr).2
  have g := grow_same (LB := LB) (rs := LB) (L := comR LA LB w) (M := LA) RD RA (fun r hr => (hci r hr).1) (fun x hB hA h0 => in_com RA RB hA hB h0) (fun r hr => (hci r hr).2) fun r hr => ⟨lB r hr, .mem hr⟩
  have e1 : LB.foldl addR (comR LA LB w) = LB := by
    obtain ⟨c1, c2, c3⟩ := fold_span RD lB
    refine c1.unique RB (fun r hr => (c2 r hr).trans fun y hy => ?_) fun r hr => c3 r (by simp [hr])
    rcases List.mem_append.mp hy with h | h
    · exact .mem h
    · exact (hci y h).2
  have e2 : LB.foldl addR LA = redR (LA ++ LB) := by
    unfold redR
    rw [List.foldl_append]
    have := redR_self RA
    unfold redR at this
    rw [this]
  rw [e1, e2] at g
  omega
end
end RX
/-! The sizes of Spaces' rows. -/
namespace RX
/-- a list of rows as the law draws it -/
structure Rws (n : Nat) (A : List Row) : Prop where
  n1 : 1 ≤ n
  n7 : n ≤ 7
  z : A.length ≤ 100
  len : ∀ r ∈ A, r.length = n
  bd : ∀ r ∈ A, BdN (2 ^ 24) r
theorem le7 {n B c e : Nat} (h : n ≤ 7) (he : e ≤ n) (hB : 1 ≤ B) (hc : (2 * 7 * B) ^ e ≤ c) : (2 * n * B) ^ e ≤ c :=
  Nat.le_trans (Nat.pow_le_pow_left (Nat.mul_le_mul_right _ (by omega)) _) hc
theorem pow7 {n B c : Nat} (h1 : 1 ≤ n) (h : n ≤ 7) (hB : 1 ≤ B) (hc : (2 * 7 * B) ^ 7 ≤ c) : (2 * n * B) ^ n ≤ c :=
  Nat.le_trans (Nat.pow_le_pow_left (Nat.mul_le_mul_right _ (by omega)) _) (Nat.le_trans (Nat.pow_le_pow_right (by omega) h) hc)
theorem pow6 {n B c : Nat} (h1 : 1 ≤ n) (h : n ≤ 7) (hB : 1 ≤ B) (hc : (2 * 7 * B) ^ 6 ≤ c) : (2 * n * B) ^ (n - 1) ≤ c :=
  Nat.le_trans (Nat.pow_le_pow_left (Nat.mul_le_mul_right _ (by omega)) _) (Nat.le_trans (Nat.pow_le_pow_right (by omega) (show n - 1 ≤ 6 by omega)) hc)
/-- the kernel's basis -/
def KR (A : List Row) (n : Nat) : List Row := redR (kerR (redR A) n)
section
variable {n : Nat} {A B : List Row}
theorem Rws.app (a : Rws n A) (b : Rws n B) (h : A.length + B.length ≤ 100) : Rws n (A ++ B) :=
  ⟨a.n1, a.n7, by simpa using h, fun r hr => (List.mem_append.mp hr).elim (a.len r) (b.len r), fun r hr => (List.mem_append.mp hr).elim (a.bd r) (b.bd r)⟩
theorem Rws.sub (a : Rws n A) (h : ∀ r ∈ B, r ∈ A) (hl : B.length ≤ 100) : Rws n B := ⟨a.n1, a.n7, hl, fun r hr => a.len r (h r hr), fun r hr => a.bd r (h r hr)⟩
theorem Rws.red (a : Rws n A) : Red n (redR A) := redR_red a.len
theorem Rws.sm (a : Rws n A) : SmR [] A := smR7 a.n7 fun r hr => ⟨a.len r hr, (a.bd r hr).mono (Nat.pow_le_pow_right (by decide) (by decide))⟩
theorem Rws.rbd (a : Rws n A) : ∀ r ∈ redR A, BdN (2 ^ 196) r := fun r hr => (red_small a.len a.bd Nat.one_le_two_pow r hr).mono (pow7 a.n1 a.n7 Nat.one_le_two_pow (by decide +kernel))
theorem Rws.rlen (a : Rws n A) : (redR A).length ≤ 7 := by have := a.red.le; have := a.n7; omega
theorem RedG.of {L : List Row} {b : Nat} (R : Red n L) (h7 : n ≤ 7) (h : ∀ r ∈ L, BdN (2 ^ b) r) : RedG n (b + 1) L :=
  ⟨R, by have := R.le; omega, fun r hr i => Nat.lt_of_le_of_lt (h r hr i) (Nat.pow_lt_pow_right (by decide) (by omega))⟩
theorem Rws.g (a : Rws n A) : RedG n 197 (redR A) := .of a.red a.n7 a.rbd
theorem Rws.ksm (a : Rws n A) : SmR [] (kerR (redR A) n) := smR_ker (by have := a.n7; omega) a.len (fun r hr => (a.bd r hr).mono (Nat.pow_le_pow_right (by decide) (by decide))) (by unfold big; decide)
theorem kerR_eq (L : List Row) (w : Nat) : kerR L w = (frees L w).map (kr L w) := rfl
theorem Rws.kred (a : Rws n A) : Red n (KR A n) := redR_red kerR_len
theorem Rws.klen (a : Rws n A) : (KR A n).length ≤ 7 := by have := a.kred.le; have := a.n7; omega
theorem Rws.kbd (a : Rws n A) : ∀ r ∈ KR A n, BdN (2 ^ 167) r := fun r hr => by
  unfold KR at hr
  rw [kerR_eq] at hr
  exact (redK_bd a.len a.bd Nat.one_le_two_pow (F := frees (redR A) n) (G := []) (by simp) r hr).mono (pow6 a.n1 a.n7 Nat.one_le_two_pow (by decide +kernel))
theorem Rws.ksm2 (a : Rws n A) : SmR [] (KR A n) := smR_red a.n7 a.kred fun r hr => (a.kbd r hr).mono (Nat.pow_le_pow_right (by decide) (by decide))
theorem Rws.kself (a : Rws n A) : redR (KR A n) = KR A n := redR_self a.kred
theorem Rws.kg (a : Rws n A) : RedG n 168 (redR (KR A n)) := by rw [a.kself]; exact .of a.kred a.n7 a.kbd
theorem Rws.kksm (a : Rws n A) : SmR [] (kerR (redR (KR A n)) n) := smR_ker (by have := a.n7; omega) (fun r hr => (a.kred.each r hr).2) (fun r hr => (a.kbd r hr).mono (Nat.pow_le_pow_right (by decide) (by decide))) (by unfold big; decide)
theorem Rws.back (a : Rws n A) : redR (kerR (redR (KR A n)) n) = redR A := by rw [a.kself]; exact ker_ker a.red
theorem Rws.krank (a : Rws n A) : (KR A n).length + (redR A).length = n := ker_rank a.red
/-! two kernels together -/
def JR (A B : List Row) (n : Nat) : List Row := redR (KR A n ++ KR B n)
def CR (A B : List Row) (n : Nat) : List Row := redR (kerR (redR (JR A B n)) n)
theorem jin (a : Rws n A) (b : Rws n B) : ∀ r ∈ KR A n ++ KR B n, r.length = n ∧ BdN (2 ^ 167) r := fun r hr => by
  rcases List.mem_append.mp hr with h | h
  · exact ⟨(a.kred.each r h).2, a.kbd r h⟩
  · exact ⟨(b.kred.each r h).2, b.kbd r h⟩
theorem jlen (a : Rws n A) (b : Rws n B) : (KR A n).length + (KR B n).length ≤ 14 := by have := a.klen; have := b.klen; omega
theorem jsm (a : Rws n A) (b : Rws n B) : SmR [] (KR A n ++ KR B n) := smR7 a.n7 fun r hr => ⟨(jin a b r hr).1, (jin a b r hr).2.mono (Nat.pow_le_pow_right (by decide) (by decide))⟩
theorem jred (a : Rws n A) (b : Rws n B) : Red n (JR A B n) := redR_red fun r hr => (jin a b r hr).1
theorem jrlen (a : Rws n A) (b : Rws n B) : (JR A B n).length ≤ 7 := by have := (jred a b).le; have := a.n7; omega
theorem jbd (a : Rws n A) (b : Rws n B) : ∀ r ∈ JR A B n, BdN (2 ^ 1196) r := fun r hr =>
  (red_small (fun r hr => (jin a b r hr).1) (fun r hr => (jin a b r hr).2) Nat.one_le_two_pow r hr).mono (pow7 a.n1 a.n7 Nat.one_le_two_pow (by decide +kernel))
theorem jsm2 (a : Rws n A) (b : Rws n B) : SmR [] (JR A B n) := smR_red a.n7 (jred a b) fun r hr => (jbd a b r hr).mono (Nat.pow_le_pow_right (by decide) (by decide))
theorem jself (a : Rws n A) (b : Rws n B) : redR (JR A B n) = JR A B n := redR_self (jred a b)
theorem jg (a : Rws n A) (b : Rws n B) : RedG n 1197 (redR (JR A B n)) := by rw [jself a b]; exact .of (jred a b) a.n7 (jbd a b)
theorem jksm (a : Rws n A) (b : Rws n B) : SmR [] (kerR (redR (JR A B n)) n) := by
  rw [jself a b]
  exact smR_ker (by have := a.n7; omega) (fun r hr => (jin a b r hr).1) (fun r hr => (jin a b r hr).2.mono (Nat.pow_le_pow_right (by decide) (by decide))) (by unfold big; decide)
theorem cred (a : Rws n A) (b : Rws n B) : Red n (CR A B n) := redR_red kerR_len
theorem crlen (a : Rws n A) (b : Rws n B) : (CR A B n).length ≤ 7 := by have := (cred a b).le; have := a.n7; omega
theorem cbd (a : Rws n A) (b : Rws n B) : ∀ r ∈ CR A B n, BdN (2 ^ 1025) r := fun r hr => by
  unfold CR at hr
  rw [jself a b, kerR_eq] at hr
  exact (redK_bd (fun r hr => (jin a b r hr).1) (fun r hr => (jin a b r hr).2) Nat.one_le_two_pow (F := frees (JR A B n) n) (G := []) (by simp [JR]) r hr).mono (pow6 a.n1 a.n7 Nat.one_le_two_pow (by decide +kernel))
theorem csm (a : Rws n A) (b : Rws n B) : SmR [] (CR A B n) := smR_red a.n7 (cred a b) fun r hr => (cbd a b r hr).mono (Nat.pow_le_pow_right (by decide) (by decide))
theorem cself (a : Rws n A) (b : Rws n B) : redR (CR A B n) = CR A B n := redR_self (cred a b)
theorem cr_com (a : Rws n A) (b : Rws n B) : CR A B n = comR (redR A) (redR B) n := by
  unfold CR
  rw [jself a b]; rfl
/-- reduced parts joined: as the whole -/
theorem red_app (a : Rws n A) (b : Rws n B) : redR (redR A ++ redR B) = redR (A ++ B) := by
  refine redR_same (w := n) (fun r hr => ?_) (fun r hr => (List.mem_append.mp hr).elim (a.len r) (b.len r)) (fun r hr => ?_) fun r hr => ?_
  · exact (List.mem_append.mp hr).elim (fun h => (a.red.each r h).2) fun h => (b.red.each r h).2
  · rcases List.mem_append.mp hr with h | h
    · exact (in_redR a.len r h).mono fun x hx => by simp [hx]
    · exact (in_redR b.len r h).mono fun x hx => by simp [hx]
  · rcases List.mem_append.mp hr with h | h
    · exact (redR_in a.len r h).mono fun x hx => by simp [hx]
    · exact (redR_in b.len r h).mono fun x hx => by simp [hx]
theorem red_app_in (a : Rws n A) (b : Rws n B) : ∀ r ∈ redR A ++ redR B, r.length = n ∧ BdN (2 ^ 196) r := fun r hr => (List.mem_append.mp hr).elim (fun h => ⟨(a.red.each r h).2, a.rbd r h⟩) fun h => ⟨(b.red.each r h).2, b.rbd r h⟩
theorem red_app_sm (a : Rws n A) (b : Rws n B) : SmR [] (redR A ++ redR B) := smR7 a.n7 fun r hr => ⟨(red_app_in a b r hr).1, (red_app_in a b r hr).2.mono (Nat.pow_le_pow_right (by decide) (by decide))⟩
theorem com_many (a : Rws n A) (b : Rws n B) : (CR A B n).length + (redR (A ++ B)).length = (redR A).length + (redR B).length := by
  rw [cr_com a b, ← red_app a b]
  exact com_rank a.red b.red
theorem numF : 2 ^ 1025 * (2 * 2 ^ 196) ^ 7 < 2 ^ big := by unfold big; decide +kernel
/-- a row may be reduced by a list's rows -/
theorem Rws.smF (a : Rws n A) {r : Row} (hl : r.length = n) (hb : BdN (2 ^ 1025) r) : SmF (redR A) r :=
  (smF_bd (w := n) (M := 2 ^ 196) (b := 2 ^ 1025) Nat.one_le_two_pow (Nat.pow_lt_pow_right (by decide) (by unfold big; decide)) (fun o ho => ⟨(a.red.each o ho).2, a.rbd o ho⟩) hl hb
    (Nat.lt_of_le_of_lt (Nat.mul_le_mul_left _ (Nat.pow_le_pow_right (by decide +kernel) a.rlen)) numF)).1
/-- whether a row lies in the span -/
theorem isZ_in {L : List Row} (R : Red n L) {r : Row} (hl : r.length = n) : isZb (redF L r) = true ↔ InS L (at_ r) := by
  have hL : ∀ o ∈ L, o.length = n ∧ ¬ isZ o := fun o ho => ⟨(R.each o ho).2, R.nz o ho⟩
  have e := redF_in (R := L) hL hl fun o ho => .mem ho
  rw [isZb_iff]
  constructor
  · exact fun z => e.mp (InS.zero z)
  · intro h
    have hz := (redF_zero (fun o h => (R.each o h).2) R.lt hl).1
    exact R.none (e.mpr h) hz
end
end RX
/-! The law's makers of Spaces. -/
namespace K21
open PySem PySem.Spec PyProof.Rows L2 Evl AX
open RX (at_ prim gcdL lead isZ isZb redF wo addR redR leadV kerR Rws KR JR CR)
abbrev sSqK : Stmt := topS 35
abbrev sSqS : Stmt := topS 36
abbrev sSqR : Stmt := topS 37
abbrev sSqD : Stmt := topS 38
abbrev sSqB : Stmt := topS 40
abbrev sSqC : Stmt := topS 41
theorem scSqK : FnScope ["some", "wide", "told"] ["some", "wide"] (defScope sSqK) := ⟨rfl, rfl, rfl, by decide +kernel, rfl, by decide +kernel, by decide +kernel⟩
theorem scSqS : FnScope ["some", "wide", "told"] ["some", "wide"] (defScope sSqS) := ⟨rfl, rfl, rfl, by decide +kernel, rfl, by decide +kernel, by decide +kernel⟩
theorem scSqR : FnScope ["space"] ["space"] (defScope sSqR) := ⟨rfl, rfl, rfl, by decide +kernel, rfl, by decide +kernel, by decide +kernel⟩
theorem scSqD : FnScope ["reduced_now"] ["reduced_now"] (defScope sSqD) := ⟨rfl, rfl, rfl, by decide +kernel, rfl, by decide +kernel, by decide +kernel⟩
theorem scSqB : FnScope ["space", "wide", "told"] ["space", "wide"] (defScope sSqB) := ⟨rfl, rfl, rfl, by decide +kernel, rfl, by decide +kernel, by decide +kernel⟩
theorem scSqC : FnScope ["first", "second", "wide", "told"] ["first", "second", "wide"] (defScope sSqC) := ⟨rfl, rfl, rfl, by decide +kernel, rfl, by decide +kernel, by decide +kernel⟩
/-! data that _law_yq_same takes -/
theorem Dat.up {n : Nat} {d : DV} (h : Dat n d) : Dat (n + 1) d := by
  induction n generalizing d with
  | zero => unfold Dat; exact .inl h
  | succ n ih =>
    unfold Dat at h ⊢
    rcases h with h | ⟨ds, h1, h2, h3⟩
    · exact .inl h
    · exact .inr ⟨ds, h1, h2, fun x hx => ih (h3 x hx)⟩
theorem Dat.le {n : Nat} {d : DV} (h : Dat n d) : ∀ {m : Nat}, n ≤ m → Dat m d
  | 0, e => by have : n = 0 := by omega
               subst this; exact h
  | m + 1, e => by
    by_cases q : n = m + 1
    · subst q; exact h
    · exact (Dat.le h (m := m) (by omega)).up
theorem dat_int (i : Int) : Dat 0 (.int i) := by unfold Dat; exact .inr (.inr (.inl ⟨i, rfl⟩))
theorem dat_bl (i : Bool) : Dat 0 (.bl i) := by unfold Dat; exact .inr (.inl ⟨i, rfl⟩)
theorem dat_str (x : Str) : Dat 0 (.str x) := by unfold Dat; exact .inr (.inr (.inr ⟨x, rfl⟩))
theorem dat_lst {n : Nat} {ds : List DV} (hz : ds.length ≤ 100000) (h : ∀ x ∈ ds, Dat n x) : Dat (n + 1) (.lst ds) := by unfold Dat; exact .inr ⟨ds, .inl rfl, hz, h⟩
theorem dat_tup {n : Nat} {ds : List DV} (hz : ds.length ≤ 100000) (h : ∀ x ∈ ds, Dat n x) : Dat (n + 1) (.tup ds) := by unfold Dat; exact .inr ⟨ds, .inr rfl, hz, h⟩
theorem dat_two {n : Nat} {x y : DV} (h1 : Dat n x) (h2 : Dat n y) : Dat (n + 1) (.tup [x, y]) := dat_tup (by simp) fun z hz => by
  simp only [List.mem_cons, List.not_mem_nil, or_false] at hz
  rcases hz with rfl | rfl
  · exact h1
  · exact h2
theorem dat_told {n : Nat} {x : DV} (h : Dat n x) : Dat (n + 1) (.tup [.str "told", x]) := dat_two ((dat_str _).le (Nat.zero_le _)) h
theorem dat_rows {rows : List RX.Row} (hz : rows.length ≤ 100000) (h : ∀ r ∈ rows, r.length ≤ 100000) : Dat 2 (dRs rows) := dat_lst (by simpa using hz) fun x hx => by
  obtain ⟨r, hr, rfl⟩ := List.mem_map.mp hx
  exact dat_tup (by simpa using h r hr) fun y hy => by
    obtain ⟨i, _, rfl⟩ := List.mem_map.mp hy
    exact dat_int i
theorem p2_told {S : Sig} : P2 S (rEqD S.K) (.str "told") (.str "told") (.bl true) := p2_eqD (x := .str "told") (y := .str "told") rfl rfl (by decide +kernel) (by decide +kernel)
/-- what has been told, its second part -/
abbrev tol (d : DV) : DV := .tup [.str "told", d]
abbrev dDue (L : List RX.Row) : DV := tol (.tup [dRs L, .int L.length])
section
variable {P : Program} {w : World} {S : Sig} {mg : Str → Option Value} {base : Heap}
abbrev lamN (q : Str) : Str := (q ++ ".<locals>.") ++ "<lambda>"
def W_sqk : AW1 := fun avs k => ∃ (so : List RX.Row) (n b : Nat), 1 ≤ n ∧ n ≤ 7 ∧ so.length ≤ 1000 ∧ (∀ r ∈ so, r.length = n) ∧ RX.SmR [] so ∧ RX.RedG n b (redR so) ∧ 1 ≤ b ∧ b ≤ 1400 ∧ RX.SmR [] (kerR (redR so) n) ∧ avs = [.imm (dRs so), .imm (.int n)] ∧ k [] (.imm (dSp n (redR (kerR (redR so) n))))
theorem ok_sqk {f c T g : Addr} {fd fdg : FuncData} (F : FunC S.K "_law_sq_kernel" "_law_sq_kernel" sSqK f fd c) (TB : LamX.TabB base mg c T) (hmT : (T, lamN "_law_sq_kernel") ∈ S.T) (hu : ∀ q ∈ S.T, q.1 = T → q.2 = lamN "_law_sq_kernel")
    (FH : L2.Fun S.K "_law_heard" "_law_heard" sHeard g fdg) (hmg : mg "_law_heard" = some (.ref g)) (hbg : L2.Binds S.K fdg ["deed"] []) (C : Can P w mg base S 7 "kernel" ["rows", "width"] W_kernel) (C2 : CanC P w mg base S 8 "Space" 0 ["self", "width", "rows"] W_spinit) (K : SpaceK S mg) (ml : mg "list" = none) : FnOk P w S.K mg base CX0 12 f fd ["some", "wide"] (spA S 2 W_sqk) := by
  refine fn_okC F scSqK fun A outer s H E hr avs kk hl ⟨so, n, b, hn1, hn, hz, hlen, hsm, hg, hb1, hb, hks, ha, hk⟩ => ?_
  subst ha
  refine Do.cons (DoS.set 2 scSqK.nd (AE.heard (lv := 9) (Hears.of FH hmg hbg scHeard (.inl rfl)) rfl rfl TB rfl hmT hu hr (LamX.lamS_by (sc := defScope sSqK) (by decide +kernel)) rfl (fun q cl pm cv ctv => rfl) fun A' outer' s' H0 f' c' hr' => ?_))
  · have kl : (kerR (redR so) n).length ≤ 1000 := by unfold RX.kerR RX.frees; rw [List.length_map]; exact Nat.le_trans (List.length_filter_le _ _) (by rw [List.length_range]; omega)
    refine AE.make C2 hr' rfl (AA.cons (AE.var 1 rfl (AA.cons (AF.imm (AF.bt call_list_of ml (by decide +kernel) (AA.cons (AE.call C (hr'.mono (by decide)) rfl (AA.cons (AF.imm (AF.bt call_list_of ml (by decide +kernel) (AA.cons (AE.var 0 rfl (AA.nil ⟨[dRs so], _, rfl, pcf_list rfl, _, rfl, ?_⟩)))))))))))))
    refine AA.cons (AE.var 1 rfl (AA.nil ⟨OkA.d rfl rfl, so, n, b, by omega, hz, hlen, hsm, hg, hb1, hb, rfl, _, rfl, AA.nil ⟨[dRs _], _, rfl, pcf_list rfl, _, rfl, ?_⟩⟩))
    refine AA.nil ⟨[.int n, dRs (kerR (redR so) n)], rfl, rfl, kerR (redR so) n, n, hn1, by omega, kl, RX.kerR_len, hks, rfl, _, rfl, rfl, K.fl.symm, ?_⟩
    refine Do.one (DoS.ret (AE.ite (AT.cmp (op_eqD hr.units) (AE.sub ix_tup (AE.var 2 rfl (AE.int ⟨_, p2_ixT rfl, AE.str ⟨_, p2_told, ?_⟩⟩))))))
    rw [if_pos rfl]
    exact AE.sub ix_tup (AE.var 2 rfl (AE.int ⟨_, p2_ixT rfl, fin0 rfl hk⟩))
def W_sqs : AW1 := fun avs k => ∃ (so : List RX.Row) (n : Nat), 1 ≤ n ∧ n ≤ 7 ∧ so.length ≤ 1000 ∧ (∀ r ∈ so, r.length = n) ∧ RX.SmR [] so ∧ avs = [.imm (dRs so), .imm (.int n)] ∧ k [] (.imm (dSp n (redR so)))
theorem ok_sqs {f c T g : Addr} {fd fdg : FuncData} (F : FunC S.K "_law_sq_space" "_law_sq_space" sSqS f fd c) (TB : LamX.TabB base mg c T) (hmT : (T, lamN "_law_sq_space") ∈ S.T) (hu : ∀ q ∈ S.T, q.1 = T → q.2 = lamN "_law_sq_space")
    (FH : L2.Fun S.K "_law_heard" "_law_heard" sHeard g fdg) (hmg : mg "_law_heard" = some (.ref g)) (hbg : L2.Binds S.K fdg ["deed"] []) (C2 : CanC P w mg base S 8 "Space" 0 ["self", "width", "rows"] W_spinit) (K : SpaceK S mg) (ml : mg "list" = none) : FnOk P w S.K mg base CX0 12 f fd ["some", "wide"] (spA S 2 W_sqs) := by
  refine fn_okC F scSqS fun A outer s H E hr avs kk hl ⟨so, n, hn1, hn, hz, hlen, hsm, ha, hk⟩ => ?_
  subst ha
  refine Do.cons (DoS.set 2 scSqS.nd (AE.heard (lv := 9) (Hears.of FH hmg hbg scHeard (.inl rfl)) rfl rfl TB rfl hmT hu hr (LamX.lamS_by (sc := defScope sSqS) (by decide +kernel)) rfl (fun q cl pm cv ctv => rfl) fun A' outer' s' H0 f' c' hr' => ?_))
  · refine AE.make C2 hr' rfl (AA.cons (AE.var 1 rfl (AA.cons (AF.imm (AF.bt call_list_of ml (by decide +kernel) (AA.cons (AE.var 0 rfl (AA.nil ⟨[dRs so], _, rfl, pcf_list rfl, _, rfl, ?_⟩))))))))
    refine AA.nil ⟨[.int n, dRs so], rfl, rfl, so, n, hn1, by omega, hz, hlen, hsm, rfl, _, rfl, rfl, K.fl.symm, ?_⟩
    refine Do.one (DoS.ret (AE.ite (AT.cmp (op_eqD hr.units) (AE.sub ix_tup (AE.var 2 rfl (AE.int ⟨_, p2_ixT rfl, AE.str ⟨_, p2_told, ?_⟩⟩))))))
    rw [if_pos rfl]
    exact AE.sub ix_tup (AE.var 2 rfl (AE.int ⟨_, p2_ixT rfl, fin0 rfl hk⟩))
def W_sqr : AW1 := fun avs k => ∃ (L : List RX.Row) (n : Nat), L.length ≤ 1000 ∧ avs = [.imm (dSp n L)] ∧ k [] (.imm (dDue L))
theorem ok_sqr {f c T g : Addr} {fd fdg : FuncData} (F : FunC S.K "_law_sq_rows" "_law_sq_rows" sSqR f fd c) (TB : LamX.TabB base mg c T) (hmT : (T, lamN "_law_sq_rows") ∈ S.T) (hu : ∀ q ∈ S.T, q.1 = T → q.2 = lamN "_law_sq_rows")
    (FH : L2.Fun S.K "_law_heard" "_law_heard" sHeard g fdg) (hmg : mg "_law_heard" = some (.ref g)) (hbg : L2.Binds S.K fdg ["deed"] []) (C1 : CanP P w mg base S 1 0 "rows" W_sprows) (C2 : CanM P w mg base S 1 0 "__len__" ["self"] W_splen) (K : SpaceK S mg) (ml : mg "len" = none) : FnOk P w S.K mg base CX0 5 f fd ["space"] (spA S 1 W_sqr) := by
  refine fn_okC F scSqR fun A outer s H E hr avs kk hl ⟨L, n, hz, ha, hk⟩ => ?_
  subst ha
  refine Do.one (DoS.ret (AE.heard (lv := 2) (Hears.of FH hmg hbg scHeard (.inl rfl)) rfl rfl TB rfl hmT hu hr (LamX.lamS_by (sc := defScope sSqR) (by decide +kernel)) rfl (fun q cl pm cv ctv => rfl) fun A' outer' s' H0 f' c' hr' => ?_))
  refine AE.tup (AA.cons (AE.prop C1 K.ic.cl hr' rfl (AE.var 0 rfl ⟨_, rfl, L, n, hz, rfl, _, rfl, ?_⟩)))
  refine AA.cons (AE.lenOb C2 hr' rfl ml (AE.var 0 rfl ⟨_, rfl, L, n, hz, rfl, L.length, by omega, rfl, ?_⟩))
  exact AA.nil ⟨[dRs L, .int L.length], rfl, by simp, fin0 rfl hk⟩
def W_sqd : AW1 := fun avs k => ∃ (L : List RX.Row), L.length ≤ 1000 ∧ avs = [.imm (dRs L)] ∧ k [] (.imm (dDue L))
theorem ok_sqd {f : Addr} {fd : FuncData} (F : L2.Fun S.K "_law_sq_due" "_law_sq_due" sSqD f fd) (ml : mg "len" = none) : FnOk P w S.K mg base CX0 1 f fd ["reduced_now"] (spA S 1 W_sqd) := by
  refine fn_ok F scSqD fun cdv A outer s H E hr avs kk hl ⟨L, hz, ha, hk⟩ => ?_
  subst ha
  refine Do.one (DoS.ret (AE.tup (AA.cons (AE.str (AA.cons (AE.tup (AA.cons (AE.var 0 rfl (AA.cons (AE.bi call_len_seq ml PySem.boot_len (AA.cons (AE.var 0 rfl (AA.nil ⟨[dRs L], _, rfl, (pc_len rfl).n, ?_⟩)))))))))))))
  refine AA.nil ⟨[dRs L, .int _], rfl, by simp, AA.nil ⟨[.str "told", .tup [dRs L, .int _]], rfl, by simp, fin0 rfl ?_⟩⟩
  rw [List.length_map]; exact hk
end
end K21
/-! Back, common parts, whether a row is spanned. -/
namespace K21
open PySem PySem.Spec PyProof.Rows L2 Evl AX
open RX (at_ prim gcdL lead isZ isZb redF wo addR redR leadV kerR Rws KR JR CR)
abbrev sSpd : Stmt := topS 31
abbrev nSpd : List Str := ["reduced_now", "row", "left", "one", "lead_v", "at", "x"]
theorem scSpd : FnScope nSpd ["reduced_now", "row"] (defScope sSpd) := ⟨rfl, rfl, rfl, by decide +kernel, rfl, by decide +kernel, by decide +kernel⟩
/-- the numbers that are not 0 -/
def nz0 : DV → Option DV
  | .int n => if n = 0 then none else some (.int n)
  | _ => none
theorem nz0_map : ∀ r : RX.Row, (r.map DV.int).filterMap nz0 = (r.filter fun x => decide (x ≠ 0)).map DV.int
  | [] => rfl
  | x :: r => by
    have ih := nz0_map r
    by_cases h : x = 0
    · have : nz0 (.int x) = none := if_pos h
      rw [List.map_cons, List.filterMap_cons, this, List.filter_cons_of_neg (by simp [h])]; exact ih
    · have : nz0 (.int x) = some (.int x) := if_neg h
      rw [List.map_cons, List.filterMap_cons, this, List.filter_cons_of_pos (by simp [h]), List.map_cons]
      exact congrArg _ ih
theorem nz_empty (r : RX.Row) : decide ((r.filter fun x => decide (x ≠ 0)) = []) = isZb r := by
  unfold RX.isZb
  induction r with
  | nil => rfl
  | cons x r ih =>
    rw [List.all_cons, ← ih]
    by_cases h : x = 0 <;> simp [h]
theorem sm_at {L : List RX.Row} : ∀ {r : RX.Row} {i : Nat} {o : RX.Row}, RX.SmF L r → L[i]? = some o → RX.Sm (redF (L.take i) r) ∧ RX.Sm o ∧ RX.Sm (RX.elim (redF (L.take i) r) o (lead o)) := by
  induction L with
  | nil => intro r i o _ h; simp at h
  | cons x L ih =>
    intro r i o h e
    cases i with
    | zero => simp at e; subst e; exact ⟨h.1, h.2.1, h.2.2.1⟩
    | succ i => exact ih (r := wo r x (lead x)) h.2.2.2 (by simpa using e)
section
variable {P : Program} {w : World} {S : Sig} {mg : Str → Option Value} {base : Heap}
def W_spd : AW1 := fun avs k => ∃ (L : List RX.Row) (r : RX.Row) (n : Nat), n ≤ 1000 ∧ L.length ≤ 1000 ∧ (∀ o ∈ L, o.length = n ∧ ¬ isZ o) ∧ r.length = n ∧ RX.Sm r ∧ RX.SmF L (prim r) ∧ avs = [.imm (dRs L), .imm (dR r)] ∧ k [] (.imm (.bl (isZb (redF L (prim r)))))
theorem ok_spd {f : Addr} {fd : FuncData} (F : L2.Fun S.K "_law_mw_is_spanned" "_law_mw_is_spanned" sSpd f fd) (C1 : Can P w mg base S 2 "_law_mw_primitive" ["row"] W_mwprim) (C2 : Can P w mg base S 3 "_law_mw_without" ["row", "lead_v", "other"] W_mwwo) (ml : mg "len" = none) (mr : mg "range" = none) : FnOk P w S.K mg base CX0 4 f fd ["reduced_now", "row"] (spA S 2 W_spd) := by
  refine fn_ok F scSpd fun cdv A outer s H E hr avs kk hl ⟨L, r, n, hn, hz, hL, hrl, hs0, hsm, ha, hk⟩ => ?_
  subst ha
  refine Do.cons (DoS.set 2 scSpd.nd (AE.call C1 (hr.mono (by decide)) rfl (AA.cons (AE.var 1 rfl (AA.nil ⟨OkA.d rfl rfl, r, dR r, by omega, hs0, .inr rfl, rfl, _, rfl, ?_⟩)))))
  have hpl : (prim r).length = n := by rw [RX.prim_len]; exact hrl
  refine Do.cons (DoS.forL rfl rfl PassesOwn.never (AE.var 0 rfl ⟨_, rfl, fun i δ => ∃ o v : Option DV, δ = [some (.imm (dRs L)), some (.imm (dR r)), some (.imm (dR (redF (L.take i) (prim r)))), o.map .imm, v.map .imm, none, none], ⟨none, none, rfl⟩, ?_, ?_⟩))
  · rintro i x δ2 hx ⟨o, v, rfl⟩
    obtain ⟨t, ht, rfl⟩ := map_get hx
    have htm := List.mem_of_getElem? ht
    obtain ⟨tl, tnz⟩ := hL t htm
    have hrt : (redF (L.take i) (prim r)).length = n := RX.redF_len (fun o ho => (hL o (List.mem_of_mem_take ho)).1) hpl
    obtain ⟨s1, s2, s3⟩ := sm_at hsm ht
    have hh := nzI_head tnz
    refine ⟨[3], AG.name 3 scSpd.nd ?_⟩
    refine Do.cons (DoS.set 4 scSpd.nd (AE.sub ix_list (AF.imm (AF.lcR [("at", 5)] rfl scSpd.nd mr (blkOk_by (N := nSpd) (sc := defScope sSpd) (by decide +kernel)) (AE.bi call_len_seq ml PySem.boot_len (AA.cons (AE.var 3 rfl (AA.nil ⟨[dR t], _, rfl, (pc_len rfl).n, t.length, by simp, by omega, by omega, Comp.filt [5] (nzAt t) (by decide) (by rw [rngD_len]; simp; omega) (noOwn (by cases v <;> rfl)) ?_ ?_⟩))))))))
    · intro q x hx s0 H0 C0 cl fp
      obtain ⟨hi, rfl⟩ := range_get (lo := 0) hx
      have hi : q < t.length := by simpa using hi
      rw [Int.zero_add]
      refine AG.name 5 scSpd.nd fun s0 H0 C0 cl fp => ATs.one (AT.cmp op_ne (AE.sub ix_tup (AE.var 3 rfl (AE.var 5 rfl ⟨_, p2_ixT (ix_row hi), AE.int ⟨_, p2_neI, rfl, ?_⟩⟩))))
      by_cases h0 : at_ t q = 0
      · rw [if_neg (by simp [h0])]; exact if_pos h0
      · rw [if_pos (by simp [h0])]
        exact fun s0 H0 C0 cl fp => AE.var 5 rfl ⟨rfl, if_neg h0⟩
    rw [Int.toNat_natCast, nzAt_map]
    refine ⟨_, rfl, AE.int ⟨_, p2_ixL (d := .int (lead t : Nat)) (atI_nat (i := 0) (by show ((nzI t).map DV.int)[0]? = _; rw [List.getElem?_map, hh] <;> rfl)), ?_⟩⟩
    refine Do.one (DoS.set 2 scSpd.nd (AE.call C2 hr rfl (AA.cons (AE.var 2 rfl (AA.cons (AE.var 4 rfl (AA.cons (AE.var 3 rfl (AA.nil ⟨OkA.d rfl rfl, redF (L.take i) (prim r), t, by omega, by omega, tnz, s1, s2, s3, rfl, _, rfl, ?_⟩)))))))))
    exact ⟨some (dR t), some (.int (lead t : Nat)), by rw [redF_take ht] <;> rfl⟩
  · rintro δ2 ⟨o, v, rfl⟩
    rw [List.length_map, List.take_length]
    have hrt : (redF L (prim r)).length = n := RX.redF_len (fun o ho => (hL o ho).1) hpl
    generalize redF L (prim r) = M at *
    refine Do.one (DoS.ret (AE.cmp (op_eqD hr.units) (AF.imm (AF.lcT [("x", 6)] rfl scSpd.nd rfl (blkOk_by (N := nSpd) (sc := defScope sSpd) (by decide +kernel)) (AE.var 2 rfl ⟨_, rfl, Comp.filt [6] nz0 (by decide) (by simp; omega) (noOwn (by cases o <;> cases v <;> rfl)) ?_ ?_⟩)))))
    · intro q x hx s0 H0 C0 cl fp
      obtain ⟨y, hy, rfl⟩ := map_get hx
      refine AG.name 6 scSpd.nd fun s0 H0 C0 cl fp => ATs.one (AT.cmp op_ne (AE.var 6 rfl (AE.int ⟨_, p2_neI, rfl, ?_⟩)))
      by_cases h0 : y = 0
      · rw [if_neg (by simp [h0])]; exact if_pos h0
      · rw [if_pos (by simp [h0])]
        exact fun s0 H0 C0 cl fp => AE.var 6 rfl ⟨rfl, if_neg h0⟩
    rw [nz0_map]
    have hfl : (M.filter fun x => decide (x ≠ 0)).length ≤ 100000 := Nat.le_trans (List.length_filter_le _ _) (by omega)
    refine ⟨_, rfl, AE.lst (AA.nil ⟨[], rfl, by decide, _, p2_eqD (plain_ints _) rfl (by show SeqAt.shaped (.list (DV.pyL _)) = true; rw [py_ints]; exact shapedI _ hfl) (by decide), fin0 rfl ?_⟩)⟩
    have e : PyData.eqv (DV.lst ((M.filter fun x => decide (x ≠ 0)).map DV.int)).py (DV.lst []).py = isZb M := by
      rw [← nz_empty M]
      show PyData.eqv (.list (DV.pyL _)) (.list []) = _
      rw [py_ints]
      cases q : M.filter fun x => decide (x ≠ 0) with
      | nil => rfl
      | cons y t => simp [PyData.eqv, PyData.eqvAll]
    rw [e]; exact hk
def W_sqb : AW1 := fun avs k => ∃ (A : List RX.Row) (n : Nat), Rws n A ∧ avs = [.imm (dSp n (KR A n)), .imm (.int n)] ∧ k [] (.imm (dSp n (redR A)))
theorem ok_sqb {f c T g : Addr} {fd fdg : FuncData} (F : FunC S.K "_law_sq_back" "_law_sq_back" sSqB f fd c) (TB : LamX.TabB base mg c T) (hmT : (T, lamN "_law_sq_back") ∈ S.T) (hu : ∀ q ∈ S.T, q.1 = T → q.2 = lamN "_law_sq_back")
    (FH : L2.Fun S.K "_law_heard" "_law_heard" sHeard g fdg) (hmg : mg "_law_heard" = some (.ref g)) (hbg : L2.Binds S.K fdg ["deed"] []) (C1 : CanP P w mg base S 1 0 "rows" W_sprows) (C2 : Can P w mg base S 12 "_law_sq_kernel" ["some", "wide"] W_sqk) (K : SpaceK S mg) : FnOk P w S.K mg base CX0 13 f fd ["space", "wide"] (spA S 2 W_sqb) := by
  refine fn_okC F scSqB fun A outer s H E hr avs kk hl ⟨A0, n, a, ha, hk⟩ => ?_
  subst ha
  refine Do.cons (DoS.set 2 scSqB.nd (AE.heard (lv := 2) (Hears.of FH hmg hbg scHeard (.inl rfl)) rfl rfl TB rfl hmT hu (hr.mono (by decide)) (LamX.lamS_by (sc := defScope sSqB) (by decide +kernel)) rfl (fun q cl pm cv ctv => rfl) fun A' outer' s' H0 f' c' hr' => ?_))
  · refine AE.prop C1 K.ic.cl hr' rfl (AE.var 0 rfl ⟨_, rfl, KR A0 n, n, by have := a.klen; omega, rfl, _, rfl, ?_⟩)
    refine Do.one (DoS.ret (AE.ite (AT.cmp (op_eqD hr.units) (AE.sub ix_tup (AE.var 2 rfl (AE.int ⟨_, p2_ixT rfl, AE.str ⟨_, p2_told, ?_⟩⟩))))))
    rw [if_pos rfl]
    refine AE.call C2 hr rfl (AA.cons (AE.sub ix_tup (AE.var 2 rfl (AE.int ⟨_, p2_ixT rfl, AA.cons (AE.var 1 rfl (AA.nil ⟨OkA.d rfl rfl, KR A0 n, n, 168, a.n1, a.n7, by have := a.klen; omega, fun r hr => (a.kred.each r hr).2, a.ksm2, a.kg, by decide, by decide, a.kksm, rfl, _, rfl, fin0 rfl ?_⟩))⟩))))
    rw [a.back]; exact hk
def W_sqc : AW1 := fun avs k => ∃ (A B : List RX.Row) (n : Nat), Rws n A ∧ Rws n B ∧ avs = [.imm (dSp n (KR A n)), .imm (dSp n (KR B n)), .imm (.int n)] ∧ k [] (.imm (dSp n (CR A B n)))
theorem ok_sqc {f c T g : Addr} {fd fdg : FuncData} (F : FunC S.K "_law_sq_common" "_law_sq_common" sSqC f fd c) (TB : LamX.TabB base mg c T) (hmT : (T, lamN "_law_sq_common") ∈ S.T) (hu : ∀ q ∈ S.T, q.1 = T → q.2 = lamN "_law_sq_common")
    (FH : L2.Fun S.K "_law_heard" "_law_heard" sHeard g fdg) (hmg : mg "_law_heard" = some (.ref g)) (hbg : L2.Binds S.K fdg ["deed"] []) (C1 : CanP P w mg base S 1 0 "rows" W_sprows) (C0 : CanM P w mg base S 10 0 "__or__" ["self", "other"] W_spor) (C2 : Can P w mg base S 12 "_law_sq_kernel" ["some", "wide"] W_sqk) (K : SpaceK S mg) : FnOk P w S.K mg base CX0 13 f fd ["first", "second", "wide"] (spA S 3 W_sqc) := by
  refine fn_okC F scSqC fun A outer s H E hr avs kk hl ⟨A0, B0, n, a, b, ha, hk⟩ => ?_
  subst ha
  refine Do.cons (DoS.set 3 scSqC.nd (AE.heard (lv := 10) (Hears.of FH hmg hbg scHeard (.inl rfl)) rfl rfl TB rfl hmT hu hr (LamX.lamS_by (sc := defScope sSqC) (by decide +kernel)) rfl (fun q cl pm cv ctv => rfl) fun A' outer' s' H0 f' c' hr' => ?_))
  · refine AE.prop C1 K.ic.cl (hr'.mono (by decide)) rfl (AE.own2 (op := .BitOr) C0 rfl K.sf hr' rfl (AE.var 0 rfl (AE.var 1 rfl ⟨_, _, rfl, rfl, KR A0 n, KR B0 n, n, a.n1, by have := a.n7; omega, by have := RX.jlen a b; omega, fun r hr => (RX.jin a b r hr).1, RX.jsm a b, rfl, _, rfl, ?_⟩)))
    refine ⟨_, rfl, JR A0 B0 n, n, by have := RX.jrlen a b; omega, rfl, _, rfl, ?_⟩
    refine Do.one (DoS.ret (AE.ite (AT.cmp (op_eqD hr.units) (AE.sub ix_tup (AE.var 3 rfl (AE.int ⟨_, p2_ixT rfl, AE.str ⟨_, p2_told, ?_⟩⟩))))))
    rw [if_pos rfl]
    refine AE.call C2 hr rfl (AA.cons (AE.sub ix_tup (AE.var 3 rfl (AE.int ⟨_, p2_ixT rfl, AA.cons (AE.var 2 rfl (AA.nil ⟨OkA.d rfl rfl, JR A0 B0 n, n, 1197, a.n1, a.n7, by have := RX.jrlen a b; omega, fun r hr => ((RX.jred a b).each r hr).2, RX.jsm2 a b, RX.jg a b, by decide, by decide, RX.jksm a b, rfl, _, rfl, fin0 rfl hk⟩))⟩))))
end
end K21
/-! Kernels' Spaces. -/
namespace K21
open PySem PySem.Spec PyProof.Rows L2 Evl AX
open RX (at_ prim gcdL lead isZ isZb redF wo addR redR leadV kerR Rws KR JR CR)
abbrev sSqKr : Stmt := topS 39
abbrev nSqKr : List Str := ["jar", "one", "two", "wide", "first", "second", "a", "b", "heard_now", "back", "many", "common", "space", "row"]
theorem scSqKr : FnScope nSqKr ["jar", "one", "two", "wide"] (defScope sSqKr) := ⟨rfl, rfl, rfl, by decide +kernel, rfl, by decide +kernel, by decide +kernel⟩
def noD : DV → Option DV := fun _ => none
theorem noD_map : ∀ xs : List DV, xs.filterMap noD = []
  | [] => rfl
  | x :: xs => noD_map xs
theorem p2_toldN {S : Sig} : P2 S (rNeD S.K) (.str "told") (.str "told") (.bl false) := p2_neD (x := .str "told") (y := .str "told") rfl rfl (by decide +kernel) (by decide +kernel)
theorem p2_nilN {S : Sig} : P2 S (rNeD S.K) (.lst []) (.lst []) (.bl false) := p2_neD (x := .lst []) (y := .lst []) rfl rfl (by decide) (by decide)
theorem bd_prim {B : Nat} {r : RX.Row} (h : RX.BdN B r) : RX.BdN B (prim r) := fun i => Nat.le_trans (RX.natAbs_prim_le _ i) (h i)
/-- a row of the common part is spanned by both -/
theorem com_spd {n : Nat} {A B : List RX.Row} (a : Rws n A) (b : Rws n B) {r : RX.Row} (h : r ∈ CR A B n) : r.length = n ∧ RX.Sm r ∧ (RX.SmF (redR A) (prim r) ∧ isZb (redF (redR A) (prim r)) = true) ∧ RX.SmF (redR B) (prim r) ∧ isZb (redF (redR B) (prim r)) = true := by
  have hl : r.length = n := ((RX.cred a b).each r h).2
  have hb := RX.cbd a b r h
  have hp : (prim r).length = n := by rw [RX.prim_len]; exact hl
  have hc : r ∈ RX.comR (redR A) (redR B) n := by rw [← RX.cr_com a b]; exact h
  obtain ⟨i1, i2⟩ := RX.com_in a.red b.red r hc
  exact ⟨hl, hb.sm (Nat.pow_lt_pow_right (by decide) (by unfold RX.big; decide)), ⟨a.smF hp (bd_prim hb), (RX.isZ_in a.red hp).mpr (RX.prim_in i1)⟩, b.smF hp (bd_prim hb), (RX.isZ_in b.red hp).mpr (RX.prim_in i2)⟩
abbrev stKr (j : List DV) (A B : List RX.Row) (n : Nat) (hn bk mn co sp rw : Option DV) : Sto := [some (.own (some 0) (.lst j)), some (.imm (dRs A)), some (.imm (dRs B)), some (.imm (.int n)), some (.imm (dSp n (KR A n))), some (.imm (dSp n (KR B n))), some (.imm (dRs (redR A))), some (.imm (dRs (redR B))), hn.map .imm, bk.map .imm, mn.map .imm, co.map .imm, sp.map .imm, rw.map .imm]
section
variable {P : Program} {w : World} {S : Sig} {mg : Str → Option Value} {base : Heap}
def W_sqkr : AW1 := fun avs k => ∃ (A B : List RX.Row) (n : Nat) (j : List DV), Rws n A ∧ Rws n B ∧ A.length + B.length ≤ 100 ∧ avs = [.own (some 0) (.lst j), .imm (dRs A), .imm (dRs B), .imm (.int n)] ∧ k [.lst j] (.imm (.bl true))
theorem ok_sqkr {f c T g : Addr} {fd fdg : FuncData} (F : FunC S.K "_law_sq_kernels_right" "_law_sq_kernels_right" sSqKr f fd c) (TB : LamX.TabB base mg c T) (hmT : (T, lamN "_law_sq_kernels_right") ∈ S.T) (hu : ∀ q ∈ S.T, q.1 = T → q.2 = lamN "_law_sq_kernels_right")
    (FH : L2.Fun S.K "_law_heard" "_law_heard" sHeard g fdg) (hmg : mg "_law_heard" = some (.ref g)) (hbg : L2.Binds S.K fdg ["deed"] [])
    (C1 : Can P w mg base S 12 "_law_sq_kernel" ["some", "wide"] W_sqk) (C2 : Can P w mg base S 5 "_law_mw_reduced" ["some"] W_mwred) (CL : CanM P w mg base S 1 0 "__len__" ["self"] W_splen) (C3 : Can P w mg base S 13 "_law_sq_back" ["space", "wide"] W_sqb) (C4 : Can P w mg base S 13 "_law_sq_common" ["first", "second", "wide"] W_sqc) (C5 : Can P w mg base S 7 "_law_yq_same" ["heard_one", "owed"] (W_same 5)) (C6 : Can P w mg base S 5 "_law_sq_rows" ["space"] W_sqr) (C7 : Can P w mg base S 1 "_law_sq_due" ["reduced_now"] W_sqd) (CR1 : CanP P w mg base S 1 0 "rows" W_sprows) (C8 : Can P w mg base S 4 "_law_mw_is_spanned" ["reduced_now", "row"] W_spd)
    (K : SpaceK S mg) (ml : mg "len" = none) (mi : mg "isinstance" = none) (mli : mg "list" = none) : FnOk P w S.K mg base CX0 14 f fd ["jar", "one", "two", "wide"] (spA S 4 W_sqkr) := by
  refine fn_okC F scSqKr fun A outer s H E hr avs kk hl ⟨A0, B0, n, j, a, b, hab, ha, hk⟩ => ?_
  subst ha
  have n7 := a.n7
  have ab := a.app b hab
  have zA := a.z
  have zB := b.z
  have rA := a.rlen
  have rB := b.rlen
  have kA := a.klen
  have kB := b.klen
  refine Do.cons (DoS.asg (js := [4, 5]) (AE.tup (AA.cons (AE.call C1 (hr.mono (by decide)) rfl (AA.cons (AE.var 1 rfl (AA.cons (AE.var 3 rfl (AA.nil ⟨OkA.d rfl rfl, A0, n, 197, a.n1, n7, by omega, a.len, a.sm, a.g, by decide, by decide, a.ksm, rfl, _, rfl, ?_⟩)))))))))
  refine AA.cons (AE.call C1 (hr.mono (by decide)) rfl (AA.cons (AE.var 2 rfl (AA.cons (AE.var 3 rfl (AA.nil ⟨OkA.d rfl rfl, B0, n, 197, a.n1, n7, by omega, b.len, b.sm, b.g, by decide, by decide, b.ksm, rfl, _, rfl, AA.nil ⟨[_, _], rfl, by simp, AG.tup rfl rfl (AGs.cons 4 scSqKr.nd (AGs.cons 5 scSqKr.nd (AGs.nil ?_)))⟩⟩))))))
  refine Do.cons (DoS.ite (AT.w (AW.or (AT.cmp op_isN (AE.var 4 rfl (AE.non ⟨_, p2_isF rfl, ?_⟩))))))
  rw [if_neg (by decide)]
  refine AW.or1 (AT.cmp op_isN (AE.var 5 rfl (AE.non ⟨_, p2_isF rfl, ?_⟩)))
  rw [if_neg (by decide)]
  refine Do.nil (Do.cons (DoS.asg (js := [6, 7]) (AE.tup (AA.cons (AE.call C2 (hr.mono (by decide)) rfl (AA.cons (AE.var 1 rfl (AA.nil ⟨OkA.d rfl rfl, A0, n, by omega, by omega, a.len, a.sm, rfl, _, rfl, ?_⟩))))))))
  refine AA.cons (AE.call C2 (hr.mono (by decide)) rfl (AA.cons (AE.var 2 rfl (AA.nil ⟨OkA.d rfl rfl, B0, n, by omega, by omega, b.len, b.sm, rfl, _, rfl, AA.nil ⟨[_, _], rfl, by simp, AG.tup rfl rfl (AGs.cons 6 scSqKr.nd (AGs.cons 7 scSqKr.nd (AGs.nil ?_)))⟩⟩))))
  show Do S _ _ (stKr j A0 B0 n none none none none none none) _
  refine Do.cons (DoS.setF 8 scSqKr.nd (AF.lst (AA.cons (AE.heard (lv := 2) (Hears.of FH hmg hbg scHeard (.inl rfl)) rfl rfl TB rfl hmT hu (hr.mono (by decide)) (LamX.lamS_by (sc := defScope sSqKr) (by decide +kernel)) rfl (fun q cl pm cv ctv => rfl) fun A' outer' s' H0 f' c' hr' => ?_))))
  refine AE.tup (AA.cons (AE.lenOb CL hr' rfl ml (AE.var 4 rfl ⟨_, rfl, KR A0 n, n, by omega, rfl, _, by omega, rfl, ?_⟩)))
  refine AA.cons (AE.lenOb CL hr' rfl ml (AE.var 5 rfl ⟨_, rfl, KR B0 n, n, by omega, rfl, _, by omega, rfl, ?_⟩))
  refine AA.nil ⟨[.int (KR A0 n).length, .int (KR B0 n).length], rfl, by simp, AA.nil ⟨[tol (.tup [.int (KR A0 n).length, .int (KR B0 n).length])], rfl, by simp, ?_⟩⟩
  refine Do.frz 8 rfl ?_
  refine Do.cons (DoS.setF 9 scSqKr.nd (AF.lst (AA.cons (AE.call C3 hr rfl (AA.cons (AE.var 4 rfl (AA.cons (AE.var 3 rfl (AA.nil ⟨OkA.d rfl rfl, A0, n, a, rfl, _, rfl, ?_⟩)))))))))
  refine AA.cons (AE.call C4 hr rfl (AA.cons (AE.var 4 rfl (AA.cons (AE.var 5 rfl (AA.cons (AE.var 3 rfl (AA.nil ⟨OkA.d rfl rfl, A0, B0, n, a, b, rfl, _, rfl, AA.nil ⟨[dSp n (redR A0), dSp n (CR A0 B0 n)], rfl, by simp, ?_⟩⟩))))))))
  refine Do.frz 9 rfl ?_
  show Do S _ _ (stKr j A0 B0 n (some (.lst [tol (.tup [.int (KR A0 n).length, .int (KR B0 n).length])])) (some (.lst [dSp n (redR A0), dSp n (CR A0 B0 n)])) none none none none) _
  refine Do.cons (DoS.ite (AT.not (AT.val (AE.call C5 (hr.mono (by decide)) rfl (AA.cons (AE.var 8 rfl (AA.cons (AE.lst (AA.cons (AE.tup (AA.cons (AE.str (AA.cons (AE.tup (AA.cons (AE.bin op_sub (AE.var 3 rfl (AE.bi call_len_seq ml PySem.boot_len (AA.cons (AE.var 6 rfl (AA.nil ⟨[dRs (redR A0)], _, rfl, (pc_len rfl).n, _, p2_iii, ?_⟩)))))))))))))))))))))
  refine AA.cons (AE.bin op_sub (AE.var 3 rfl (AE.bi call_len_seq ml PySem.boot_len (AA.cons (AE.var 7 rfl (AA.nil ⟨[dRs (redR B0)], _, rfl, (pc_len rfl).n, _, p2_iii, ?_⟩))))))
  have e1 : (n : Int) - (((redR A0).map dR).length : Nat) = (KR A0 n).length := by have := a.krank; rw [List.length_map]; omega
  have e2 : (n : Int) - (((redR B0).map dR).length : Nat) = (KR B0 n).length := by have := b.krank; rw [List.length_map]; omega
  rw [e1, e2]
  refine AA.nil ⟨[.int (KR A0 n).length, .int (KR B0 n).length], rfl, by simp, AA.nil ⟨[.str "told", .tup [.int (KR A0 n).length, .int (KR B0 n).length]], rfl, by simp, AA.nil ⟨[tol (.tup [.int (KR A0 n).length, .int (KR B0 n).length])], rfl, by simp, ?_⟩⟩⟩
  refine AA.nil ⟨OkA.d rfl rfl, .lst [tol (.tup [.int (KR A0 n).length, .int (KR B0 n).length])], ?_, rfl, _, rfl, true, rfl, ?_⟩
  · refine (dat_lst (n := 2) (by simp) fun x hx => ?_).le (by decide)
    rw [List.mem_singleton.mp hx]
    exact dat_told (dat_two (dat_int _) (dat_int _))
  rw [if_neg (by decide)]
  refine Do.nil (Do.cons (DoS.ite (AT.cmp (op_neD hr.units) (AF.imm (AF.lcL [("space", 12)] rfl scSqKr.nd rfl (blkOk_by (N := nSqKr) (sc := defScope sSqKr) (by decide +kernel)) (AE.var 9 rfl ⟨_, rfl, Comp.filt [12] noD (by decide) (by simp) (noOwn rfl) ?_ ?_⟩))))))
  · intro q x hx s0 H0 C0 cl fp
    have hx2 : x = dSp n (redR A0) ∨ x = dSp n (CR A0 B0 n) := by
      have := List.mem_of_getElem? hx
      simpa using this
    refine AG.name 12 scSqKr.nd fun s0 H0 C0 cl fp => ATs.one (AT.cmp op_isN (AE.var 12 rfl (AE.non ⟨_, p2_isF (by rcases hx2 with h | h <;> rw [h] <;> rfl), rfl, ?_⟩)))
    rw [if_neg (by decide)]; rfl
  rw [noD_map]
  refine ⟨_, rfl, AE.lst (AA.nil ⟨[], rfl, by decide, _, p2_nilN, ?_⟩)⟩
  rw [if_neg (by decide)]
  refine Do.nil (Do.cons (DoS.ite (AT.not (AT.val (AE.call C5 (hr.mono (by decide)) rfl (AA.cons (AE.call C6 (hr.mono (by decide)) rfl (AA.cons (AE.sub ix_list (AE.var 9 rfl (AE.int ⟨dSp n (redR A0), p2_ixL (atI_nat (i := 0) rfl), AA.nil ⟨OkA.d rfl rfl, redR A0, n, by omega, rfl, _, rfl, ?_⟩⟩)))))))))))
  refine AA.cons (AE.call C7 (hr.mono (by decide)) rfl (AA.cons (AE.var 6 rfl (AA.nil ⟨OkA.d rfl rfl, redR A0, by omega, rfl, _, rfl, ?_⟩))))
  refine AA.nil ⟨OkA.d rfl rfl, dDue (redR A0), ?_, rfl, _, rfl, true, rfl, ?_⟩
  · refine (dat_told (dat_two (dat_rows (by omega) fun r hr => ?_) ((dat_int _).le (by decide)))).le (by decide)
    rw [(a.red.each r hr).2]; omega
  rw [if_neg (by decide)]
  have zj : (redR (A0 ++ B0)).length ≤ 7 := ab.rlen
  refine Do.nil (Do.cons (DoS.set 10 scSqKr.nd (AE.bin op_sub (AE.bin op_add (AE.bi call_len_seq ml PySem.boot_len (AA.cons (AE.var 6 rfl (AA.nil ⟨[dRs (redR A0)], _, rfl, (pc_len rfl).n, ?_⟩))))))))
  refine AE.bi call_len_seq ml PySem.boot_len (AA.cons (AE.var 7 rfl (AA.nil ⟨[dRs (redR B0)], _, rfl, (pc_len rfl).n, _, p2_iii, ?_⟩)))
  refine AE.bi call_len_seq ml PySem.boot_len (AA.cons (AE.call C2 (hr.mono (by decide)) rfl (AA.cons (AF.imm (AF.bin op_cat (AE.var 1 rfl (AE.var 2 rfl ⟨_, p2f_cat (by simp; omega), _, rfl, AA.nil ⟨OkA.d rfl rfl, A0 ++ B0, n, by omega, by simp; omega, ab.len, ab.sm, by rw [← List.map_append] <;> rfl, _, rfl, AA.nil ⟨[dRs (redR (A0 ++ B0))], _, rfl, (pc_len rfl).n, _, p2_iii, ?_⟩⟩⟩)))))))
  have em : (((redR A0).map dR).length : Nat) + (((redR B0).map dR).length : Nat) - (((redR (A0 ++ B0)).map dR).length : Nat) = ((CR A0 B0 n).length : Int) := by
    have := RX.com_many a b
    rw [List.length_map, List.length_map, List.length_map]; omega
  rw [em]
  show Do S _ _ (stKr j A0 B0 n (some (.lst [tol (.tup [.int (KR A0 n).length, .int (KR B0 n).length])])) (some (.lst [dSp n (redR A0), dSp n (CR A0 B0 n)])) (some (.int (CR A0 B0 n).length)) none none none) _
  have zc := RX.crlen a b
  refine Do.cons (DoS.set 11 scSqKr.nd (AE.heard (lv := 2) (Hears.of FH hmg hbg scHeard (.inl rfl)) rfl rfl TB rfl hmT hu (hr.mono (by decide)) (LamX.lamS_by (sc := defScope sSqKr) (by decide +kernel)) rfl (fun q cl pm cv ctv => rfl) fun A' outer' s' H0 f' c' hr' => ?_))
  refine AE.prop CR1 K.ic.cl hr' rfl (AE.sub ix_list (AE.var 9 rfl (AE.int ⟨dSp n (CR A0 B0 n), p2_ixL (atI_nat (i := 1) rfl), _, rfl, CR A0 B0 n, n, by omega, rfl, _, rfl, ?_⟩)))
  show Do S _ _ (stKr j A0 B0 n (some (.lst [tol (.tup [.int (KR A0 n).length, .int (KR B0 n).length])])) (some (.lst [dSp n (redR A0), dSp n (CR A0 B0 n)])) (some (.int (CR A0 B0 n).length)) (some (tol (dRs (CR A0 B0 n)))) none none) _
  refine Do.cons (DoS.ite (AT.w (AW.or (AT.cmp (op_neD hr.units) (AE.sub ix_tup (AE.var 11 rfl (AE.int ⟨_, p2_ixT rfl, AE.str ⟨_, p2_toldN, ?_⟩⟩)))))))
  rw [if_neg (by decide)]
  refine AW.or (AT.not (AT.val (AE.bi call_isi mi (by decide +kernel) (AA.cons (AE.sub ix_tup (AE.var 11 rfl (AE.int ⟨_, p2_ixT rfl, AA.cons (AE.ty mli (by decide +kernel) (AA.nil ⟨[dRs (CR A0 B0 n), .raw (.ty "list")], _, rfl, (pc_isi (T := "list") (b := true) rfl (kit_ty (by decide +kernel))).n, true, rfl, ?_⟩))⟩)))))))
  rw [if_neg (by decide)]
  refine AW.or1 (AT.cmp op_ne (AE.bi call_len_seq ml PySem.boot_len (AA.cons (AE.sub ix_tup (AE.var 11 rfl (AE.int ⟨_, p2_ixT rfl, AA.nil ⟨[dRs (CR A0 B0 n)], _, rfl, (pc_len rfl).n, AE.var 10 rfl ⟨_, p2_neI, ?_⟩⟩⟩))))))
  rw [if_neg (by simp)]
  refine Do.nil (Do.cons (DoS.ite (AT.cmp (op_neD hr.units) (AF.imm (AF.lcL [("row", 13)] rfl scSqKr.nd rfl (blkOk_by (N := nSqKr) (sc := defScope sSqKr) (by decide +kernel)) (AE.sub ix_tup (AE.var 11 rfl (AE.int ⟨_, p2_ixT rfl, _, rfl, Comp.filt [13] noD (by decide) (by simp; omega) (noOwn rfl) ?_ ?_⟩))))))))
  · intro q x hx s0 H0 C0 cl fp
    obtain ⟨r, hrr, rfl⟩ := map_get hx
    have hm := List.mem_of_getElem? hrr
    obtain ⟨hrl, hrs, ⟨f1, z1⟩, f2, z2⟩ := com_spd a b hm
    refine AG.name 13 scSqKr.nd fun s0 H0 C0 cl fp => ATs.one (AT.w (AW.or (AT.not (AT.val (AE.call C8 (hr.mono (by decide)) rfl (AA.cons (AE.var 6 rfl (AA.cons (AE.var 13 rfl (AA.nil ⟨OkA.d rfl rfl, redR A0, r, n, by omega, by omega, fun o ho => ⟨(a.red.each o ho).2, a.red.nz o ho⟩, hrl, hrs, f1, rfl, _, rfl, true, by rw [z1], ?_⟩))))))))))
    rw [if_neg (by decide)]
    refine AW.or1 (AT.not (AT.val (AE.call C8 (hr.mono (by decide)) rfl (AA.cons (AE.var 7 rfl (AA.cons (AE.var 13 rfl (AA.nil ⟨OkA.d rfl rfl, redR B0, r, n, by omega, by omega, fun o ho => ⟨(b.red.each o ho).2, b.red.nz o ho⟩, hrl, hrs, f2, rfl, _, rfl, true, by rw [z2], rfl, ?_⟩))))))))
    rw [if_neg (by decide)]; rfl
  rw [noD_map]
  refine ⟨_, rfl, AE.lst (AA.nil ⟨[], rfl, by decide, _, p2_nilN, ?_⟩)⟩
  rw [if_neg (by decide)]
  refine Do.nil (Do.one (DoS.ret (AE.cmp op_eq (AE.bi call_len_seq ml PySem.boot_len (AA.cons (AE.call C2 (hr.mono (by decide)) rfl (AA.cons (AE.sub ix_tup (AE.var 11 rfl (AE.int ⟨_, p2_ixT rfl, AA.nil ⟨OkA.d rfl rfl, CR A0 B0 n, n, by omega, by omega, fun r hr => ((RX.cred a b).each r hr).2, RX.csm a b, rfl, _, rfl, ?_⟩⟩))))))))))
  rw [RX.cself a b]
  refine AA.nil ⟨[dRs (CR A0 B0 n)], _, rfl, (pc_len rfl).n, AE.var 10 rfl ⟨_, p2_eqI, fin1 0 rfl rfl ?_⟩⟩
  rw [List.length_map, decide_eq_true rfl]; exact hk
end
end K21
/-! Spaces joined. -/
namespace K21
open PySem PySem.Spec PyProof.Rows L2 Evl AX
open RX (at_ prim gcdL lead isZ isZb redF wo addR redR leadV kerR Rws KR JR CR)
abbrev sSqJ : Stmt := topS 42
abbrev nSqJ : List Str := ["jar", "parts_now", "wide", "some", "spaces_now", "every", "a", "b", "c", "told", "shown_now", "whole", "other", "heard_now", "space"]
theorem scSqJ : FnScope nSqJ ["jar", "parts_now", "wide"] (defScope sSqJ) := ⟨rfl, rfl, rfl, by decide +kernel, rfl, by decide +kernel, by decide +kernel⟩
theorem perm_map_inv {α β : Type} {f : α → β} {l : List α} {ds : List β} (h : ds.Perm (l.map f)) : ∃ l' : List α, l'.Perm l ∧ ds = l'.map f := by
  generalize hm : l.map f = m at h
  induction h generalizing l with
  | nil =>
    cases l with
    | nil => exact ⟨[], .nil, rfl⟩
    | cons x l => simp at hm
  | cons x h ih =>
    cases l with
    | nil => simp at hm
    | cons y l =>
      rw [List.map_cons] at hm
      obtain ⟨e1, e2⟩ := List.cons.inj hm
      obtain ⟨l', p, e⟩ := ih e2
      exact ⟨y :: l', p.cons y, by rw [e, List.map_cons, e1]⟩
  | swap x y r =>
    match l, hm with
    | u :: v :: l, hm =>
      simp only [List.map_cons] at hm
      obtain ⟨e1, e2⟩ := List.cons.inj hm
      obtain ⟨e3, e4⟩ := List.cons.inj e2
      exact ⟨v :: u :: l, .swap u v l, by simp [e1, e3, e4]⟩
  | trans h1 h2 ih1 ih2 =>
    obtain ⟨l2, p2, e2⟩ := ih2 hm
    obtain ⟨l1, p1, e1⟩ := ih1 e2.symm
    exact ⟨l1, p1.trans p2, e1⟩
/-- the same rows, in any order, any number of times -/
theorem red_iff {n : Nat} {A B : List RX.Row} (a : Rws n A) (b : Rws n B) (h : ∀ r, r ∈ A ↔ r ∈ B) : redR A = redR B :=
  RX.redR_same a.len b.len (fun r hr => .mem ((h r).mp hr)) fun r hr => .mem ((h r).mpr hr)
theorem inB_in {n : Nat} {L : List RX.Row} (R : RX.Red n L) {r : RX.Row} (hl : r.length = n) : inB L r = true ↔ RX.InS L (at_ r) := by
  rw [← RX.isZ_in R hl]
  unfold inB
  rw [RX.isZb_iff, RX.isZb_iff]
  exact ⟨fun h i => (RX.prim_at_zero i).mp (h i), fun h i => (RX.prim_at_zero i).mpr (h i)⟩
theorem within_iff {n : Nat} {A B : List RX.Row} (a : Rws n A) (b : Rws n B) : ((redR A).all fun r => inB (redR B) r) = true ↔ ∀ r ∈ A, RX.InS (redR B) (at_ r) := by
  rw [List.all_eq_true]
  constructor
  · intro h r hr
    exact (RX.redR_in a.len r hr).trans fun o ho => (inB_in b.red ((a.red.each o ho).2)).mp (h o ho)
  · intro h r hr
    exact (inB_in b.red ((a.red.each r hr).2)).mpr ((RX.in_redR a.len r hr).trans h)
theorem within_sub {n : Nat} {A B : List RX.Row} (a : Rws n A) (b : Rws n B) (h : ∀ r ∈ A, r ∈ B) : ((redR A).all fun r => inB (redR B) r) = true :=
  (within_iff a b).mpr fun r hr => RX.redR_in b.len r (h r hr)
section
variable {P : Program} {w : World} {S : Sig} {mg : Str → Option Value} {base : Heap}
section
variable {X : Cx} {δ : Sto} {k : Sto → DV → Prop} {a b o e : Expr} {pos apos : Pos} {n : Nat} {A B : List RX.Row}
/-- a | b -/
theorem or_E (C : CanM X.prog X.w X.mg X.base S 10 0 "__or__" ["self", "other"] W_spor) (K : SpaceK S X.mg) (hr : Room 10 X.A) (hK : X.K = S.K) (ra : Rws n A) (rb : Rws n B) (h : AE S X a δ fun δ1 d => d = dSp n (redR A) ∧ AE S X b δ1 fun δ2 d => d = dSp n (redR B) ∧ k δ2 (dSp n (redR (A ++ B)))) : AE S X (.BinOp a .BitOr b pos) δ k := by
  refine AE.own2 (op := .BitOr) C rfl K.sf hr hK (h.imp fun δ1 d ⟨e1, h⟩ => h.imp fun δ2 d2 ⟨e2, h⟩ => ?_)
  subst e1 e2
  refine ⟨_, _, rfl, rfl, redR A, redR B, n, ra.n1, by have := ra.n7; omega, by have := ra.rlen; have := rb.rlen; omega, fun r hr => (RX.red_app_in ra rb r hr).1, RX.red_app_sm ra rb, rfl, _, rfl, ?_⟩
  rw [RX.red_app ra rb]; exact h
/-- o.is_within(e) -/
theorem within_E {pl : Sem Bool} (C : CanM X.prog X.w X.mg X.base S 6 0 "is_within" ["self", "other"] W_spwithin) (K : SpaceK S X.mg) (hr : Room 6 X.A) (hK : X.K = S.K) (ra : Rws n A) (rb : Rws n B) (h : AE S X o δ fun δ1 d => d = dSp n (redR A) ∧ AE S X e δ1 fun δ2 d => d = dSp n (redR B) ∧ k δ2 (.bl ((redR A).all fun r => inB (redR B) r)))
    (hst : starEach [e] X.env = (false, eval e X.env) :: starEach [] X.env := by rfl) (hpl : (backTo pos (starEach [] X.env)).any (·.1) = false := by rfl)
    (ht : eval (.Call (.Attribute o "is_within" apos) [e] [] pos) X.env = (do
      let ov ← eval o X.env
      standAt apos.atName
      let (f, first) ← holding [ov] (getMethod ov "is_within" pl)
      callWith pos f first (backTo pos (starEach [e] X.env)) (backToKw pos (keywordEach [] X.env))) := by rfl) : AE S X (.Call (.Attribute o "is_within" apos) [e] [] pos) δ k := by
  refine AE.meth C K.ic.cl (by rw [K.fl]; rfl) hr hK (h.imp fun δ1 d ⟨e1, h⟩ => ⟨_, e1, AA.cons (h.imp fun δ2 d2 ⟨e2, h⟩ => AA.nil ⟨OkA.d rfl rfl, ?_⟩) hst⟩) hst hpl ht
  subst e1 e2
  refine ⟨redR A, redR B, n, by have := ra.n7; omega, by have := ra.rlen; omega, by have := rb.rlen; omega, fun o ho => ⟨(rb.red.each o ho).2, rb.red.nz o ho⟩, fun r hr => ⟨(ra.red.each r hr).2, rb.smF (ra.red.each r hr).2 ((ra.rbd r hr).mono (Nat.pow_le_pow_right (by decide) (by decide)))⟩, rfl, _, rfl, h⟩
end
abbrev stJ (j : List DV) (A B C : List RX.Row) (n : Nat) (so sp : Option DV) (ev : List RX.Row) (a b c to sh wh ot he : Option DV) : Sto := [some (.own (some 0) (.lst j)), some (.imm (.lst ([A, B, C].map dRs))), some (.imm (.int n)), so.map .imm, sp.map .imm, some (.own none (.lst (ev.map dR))), a.map .imm, b.map .imm, c.map .imm, to.map .imm, sh.map .imm, wh.map .imm, ot.map .imm, he.map .imm, none]
def W_sqj : AW1 := fun avs k => ∃ (A B C : List RX.Row) (n m : Nat) (j : List DV), Rws n A ∧ Rws n B ∧ Rws n C ∧ A.length ≤ 10 ∧ B.length ≤ 10 ∧ C.length ≤ 10 ∧ Jar m j ∧ m + 3 ≤ cap ∧ avs = [.own (some 0) (.lst j), .imm (.lst [dRs A, dRs B, dRs C]), .imm (.int n)] ∧ ∀ j', Jar (m + 3) j' → k [.lst j'] (.imm (.bl true))
theorem ok_sqj {f c T g : Addr} {fd fdg : FuncData} (F : FunC S.K "_law_sq_joined_right" "_law_sq_joined_right" sSqJ f fd c) (TB : LamX.TabB base mg c T) (hmT : (T, lamN "_law_sq_joined_right") ∈ S.T) (hu : ∀ q ∈ S.T, q.1 = T → q.2 = lamN "_law_sq_joined_right")
    (FH : L2.Fun S.K "_law_heard" "_law_heard" sHeard g fdg) (hmg : mg "_law_heard" = some (.ref g)) (hbg : L2.Binds S.K fdg ["deed"] [])
    (C1 : Can P w mg base S 12 "_law_sq_space" ["some", "wide"] W_sqs) (C2 : Can P w mg base S 2 "_law_mixed" ["jar", "things"] W_mixed) (CO : CanM P w mg base S 10 0 "__or__" ["self", "other"] W_spor) (C3 : Can P w mg base S 5 "_law_sq_rows" ["space"] W_sqr) (C4 : Can P w mg base S 5 "_law_mw_reduced" ["some"] W_mwred) (C5 : Can P w mg base S 1 "_law_sq_due" ["reduced_now"] W_sqd) (C6 : Can P w mg base S 7 "_law_yq_same" ["heard_one", "owed"] (W_same 5)) (CW : CanM P w mg base S 6 0 "is_within" ["self", "other"] W_spwithin) (CE : CanM P w mg base S 1 0 "__eq__" ["self", "other"] W_speq)
    (K : SpaceK S mg) : FnOk P w S.K mg base CX0 13 f fd ["jar", "parts_now", "wide"] (spA S 3 W_sqj) := by
  refine fn_okC F scSqJ fun A outer s H E hr avs kk hl ⟨A0, B0, C0, n, m, j, a, b, c0, zA, zB, zC, hj, hm, ha, hk⟩ => ?_
  subst ha
  have n7 := a.n7
  have n1 := a.n1
  have rw3 : ∀ X ∈ [A0, B0, C0], Rws n X ∧ X.length ≤ 10 := fun X hX => by
    simp only [List.mem_cons, List.not_mem_nil, or_false] at hX
    rcases hX with rfl | rfl | rfl
    · exact ⟨a, zA⟩
    · exact ⟨b, zB⟩
    · exact ⟨c0, zC⟩
  refine Do.cons (DoS.setLcL [("some", 3)] 4 rfl scSqJ.nd rfl (blkOk_by (N := nSqJ) (sc := defScope sSqJ) (by decide +kernel)) (AE.var 1 rfl ⟨_, rfl, Comp.to [3] ([A0, B0, C0].map fun X => dSp n (redR X)) (by decide) (by simp) (by simp) (noOwn rfl) ?_ ?_⟩))
  · intro i x y hx hy s0 H0 Cc cl fp
    have hx : ([A0, B0, C0].map dRs)[i]? = some x := hx
    obtain ⟨X, hX, rfl⟩ := map_get hx
    obtain ⟨q, zq⟩ := rw3 X (List.mem_of_getElem? hX)
    have ey : y = dSp n (redR X) := by rw [List.getElem?_map, hX] at hy; exact (Option.some.inj hy).symm
    refine AG.name 3 scSqJ.nd fun s0 H0 C0 cl fp => ATs.nil ⟨rfl, fun s0 H0 C0 cl fp => ?_⟩
    exact AE.call C1 hr rfl (AA.cons (AE.var 3 rfl (AA.cons (AE.var 2 rfl (AA.nil ⟨OkA.d rfl rfl, X, n, n1, n7, by omega, q.len, q.sm, rfl, _, rfl, rfl, ey.symm⟩)))))
  refine Do.frz 4 rfl ?_
  refine Do.cons (DoS.ite (AT.cmp (op_neD hr.units) (AF.imm (AF.lcL [("space", 14)] rfl scSqJ.nd rfl (blkOk_by (N := nSqJ) (sc := defScope sSqJ) (by decide +kernel)) (AE.var 4 rfl ⟨_, rfl, Comp.filt [14] noD (by decide) (by simp) (noOwn rfl) ?_ ?_⟩)))))
  · intro q x hx s0 H0 Cc cl fp
    obtain ⟨X, hX, rfl⟩ := map_get hx
    refine AG.name 14 scSqJ.nd fun s0 H0 C0 cl fp => ATs.one (AT.cmp op_isN (AE.var 14 rfl (AE.non ⟨_, p2_isF rfl, rfl, ?_⟩)))
    rw [if_neg (by decide)]; rfl
  rw [noD_map]
  refine ⟨_, rfl, AE.lst (AA.nil ⟨[], rfl, by decide, _, p2_nilN, ?_⟩)⟩
  rw [if_neg (by decide)]
  refine Do.nil (Do.cons (DoS.setF 5 scSqJ.nd (AF.lst (AA.nil ⟨[], rfl, by decide, ?_⟩))))
  show Do S _ _ (stJ j A0 B0 C0 n none (some (.lst ([A0, B0, C0].map fun X => dSp n (redR X)))) [] none none none none none none none none) _
  refine Do.cons (DoS.forL rfl rfl PassesOwn.never (AE.var 1 rfl ⟨_, rfl, fun i δ => ∃ so : Option DV, δ = stJ j A0 B0 C0 n so (some (.lst ([A0, B0, C0].map fun X => dSp n (redR X)))) (([A0, B0, C0].take i).flatten) none none none none none none none none, ⟨none, rfl⟩, ?_, ?_⟩))
  · rintro i x δ2 hx ⟨so, rfl⟩
    obtain ⟨X, hX, rfl⟩ := map_get hx
    obtain ⟨q, zq⟩ := rw3 X (List.mem_of_getElem? hX)
    have et : ([A0, B0, C0].take (i + 1)).flatten = ([A0, B0, C0].take i).flatten ++ X := by rw [List.take_add_one, hX, List.flatten_append]; simp
    have el : (([A0, B0, C0].take i).flatten).length ≤ 30 := by
      have hi := (List.getElem?_eq_some_iff.mp hX).1
      have hi : i < 3 := by simpa using hi
      match i, hi with
      | 0, _ => simp
      | 1, _ => simp; omega
      | 2, _ => simp; omega
    refine ⟨[3], AG.name 3 scSqJ.nd ?_⟩
    refine Do.one (DoS.expr (AE.meth1 5 PySem.F.slot_list_extend PySem.F.type_list_extend mt_extend rfl (AE.var 3 rfl ⟨none, _, _, _, rfl, mo_extend (by rw [List.length_map, List.length_map]; omega), some (dRs X), ?_⟩)))
    rw [et, ← List.map_append]; rfl
  rintro δ2 ⟨so, rfl⟩
  have ee : ([A0, B0, C0].take ([A0, B0, C0].map dRs).length).flatten = A0 ++ B0 ++ C0 := by simp
  rw [ee]
  have rE : Rws n (A0 ++ B0 ++ C0) := (a.app b (by omega)).app c0 (by simp; omega)
  have zE : (A0 ++ B0 ++ C0).length ≤ 30 := by simp; omega
  have memE : ∀ r, r ∈ A0 ++ B0 ++ C0 ↔ ∃ X ∈ [A0, B0, C0], r ∈ X := fun r => by simp [or_assoc]
  generalize A0 ++ B0 ++ C0 = Ev at *
  refine Do.cons (DoS.asg (js := [6, 7, 8]) (AE.call C2 (hr.mono (by decide)) rfl (AA.own 0 rfl (AA.cons (AE.var 4 rfl (AA.nil ⟨OkA.one (i := 0) rfl rfl rfl, j, [A0, B0, C0].map fun X => dSp n (redR X), m, hj, by simpa using hm, by simp, rfl, fun j' ds' hj' hp => ?_⟩))))))
  obtain ⟨l', hp', rfl⟩ := perm_map_inv hp
  have hl3 : l'.length = 3 := by rw [hp'.length_eq]; rfl
  obtain ⟨X, Y, Z, rfl⟩ : ∃ X Y Z, l' = [X, Y, Z] := by
    match l', hl3 with
    | [X, Y, Z], _ => exact ⟨X, Y, Z, rfl⟩
  have hj' : Jar (m + 3) j' := hj'
  obtain ⟨x, zX⟩ := rw3 X (hp'.mem_iff.mp (by simp))
  obtain ⟨y, zY⟩ := rw3 Y (hp'.mem_iff.mp (by simp))
  obtain ⟨z, zZ⟩ := rw3 Z (hp'.mem_iff.mp (by simp))
  have memE2 : ∀ r, r ∈ Ev ↔ r ∈ X ∨ r ∈ Y ∨ r ∈ Z := fun r => by
    rw [memE]
    constructor
    · rintro ⟨U, hU, hr⟩
      have := hp'.mem_iff.mpr hU
      simp only [List.mem_cons, List.not_mem_nil, or_false] at this
      rcases this with rfl | rfl | rfl
      · exact .inl hr
      · exact .inr (.inl hr)
      · exact .inr (.inr hr)
    · rintro (h | h | h)
      · exact ⟨X, hp'.mem_iff.mp (by simp), h⟩
      · exact ⟨Y, hp'.mem_iff.mp (by simp), h⟩
      · exact ⟨Z, hp'.mem_iff.mp (by simp), h⟩
  refine ⟨_, rfl, AG.lst rfl rfl (AGs.cons 6 scSqJ.nd (AGs.cons 7 scSqJ.nd (AGs.cons 8 scSqJ.nd (AGs.nil ?_))))⟩
  show Do S _ _ (stJ j' A0 B0 C0 n so (some (.lst ([A0, B0, C0].map fun X => dSp n (redR X)))) Ev (some (dSp n (redR X))) (some (dSp n (redR Y))) (some (dSp n (redR Z))) none none none none none) _
  have xy : Rws n (X ++ Y) := x.app y (by omega)
  have yz : Rws n (Y ++ Z) := y.app z (by omega)
  have zx : Rws n (Z ++ X) := z.app x (by omega)
  have xyz : Rws n (X ++ Y ++ Z) := xy.app z (by simp; omega)
  have x_yz : Rws n (X ++ (Y ++ Z)) := x.app yz (by simp; omega)
  have zxy : Rws n (Z ++ X ++ Y) := zx.app y (by simp; omega)
  have xyzx : Rws n (X ++ Y ++ Z ++ X) := xyz.app x (by simp; omega)
  have w1 : redR (X ++ Y ++ Z) = redR Ev := red_iff xyz rE fun r => by rw [memE2]; simp [or_assoc]
  have w2 : redR (X ++ (Y ++ Z)) = redR Ev := red_iff x_yz rE fun r => by rw [memE2]; simp
  have w3 : redR (Z ++ X ++ Y) = redR Ev := red_iff zxy rE fun r => by rw [memE2]; simp; grind
  have w4 : redR (X ++ Y ++ Z ++ X) = redR Ev := red_iff xyzx rE fun r => by rw [memE2]; simp; grind
  refine Do.cons (DoS.set 9 scSqJ.nd (AE.heard (lv := 10) (Hears.of FH hmg hbg scHeard (.inl rfl)) rfl rfl TB rfl hmT hu hr (LamX.lamS_by (sc := defScope sSqJ) (by decide +kernel)) rfl (fun q cl pm cv ctv => rfl) fun A' outer' s' H0 f' c' hr' => ?_))
  refine AE.lst (AA.cons (or_E CO K hr' rfl xy z (or_E CO K hr' rfl x y (AE.var 6 rfl ⟨rfl, AE.var 7 rfl ⟨rfl, rfl, AE.var 8 rfl ⟨rfl, ?_⟩⟩⟩))))
  refine AA.cons (or_E CO K hr' rfl x yz (AE.var 6 rfl ⟨rfl, or_E CO K hr' rfl y z (AE.var 7 rfl ⟨rfl, AE.var 8 rfl ⟨rfl, rfl, ?_⟩⟩)⟩))
  refine AA.cons (or_E CO K hr' rfl zx y (or_E CO K hr' rfl z x (AE.var 8 rfl ⟨rfl, AE.var 6 rfl ⟨rfl, rfl, AE.var 7 rfl ⟨rfl, ?_⟩⟩⟩)))
  refine AA.cons (or_E CO K hr' rfl xyz x (or_E CO K hr' rfl xy z (or_E CO K hr' rfl x y (AE.var 6 rfl ⟨rfl, AE.var 7 rfl ⟨rfl, rfl, AE.var 8 rfl ⟨rfl, rfl, AE.var 6 rfl ⟨rfl, ?_⟩⟩⟩⟩))))
  rw [w1, w2, w3, w4]
  refine AA.nil ⟨(List.replicate 4 Ev).map fun X => dSp n (redR X), rfl, by simp, ?_⟩
  show Do S _ _ (stJ j' A0 B0 C0 n so (some (.lst ([A0, B0, C0].map fun X => dSp n (redR X)))) Ev (some (dSp n (redR X))) (some (dSp n (redR Y))) (some (dSp n (redR Z))) (some (tol (.lst ((List.replicate 4 Ev).map fun X => dSp n (redR X))))) none none none none) _
  refine Do.cons (DoS.ite (AT.cmp (op_neD hr.units) (AE.sub ix_tup (AE.var 9 rfl (AE.int ⟨_, p2_ixT rfl, AE.str ⟨_, p2_toldN, ?_⟩⟩)))))
  rw [if_neg (by decide)]
  have zr := rE.rlen
  refine Do.nil (Do.cons (DoS.setLcL [("space", 14)] 10 rfl scSqJ.nd rfl (blkOk_by (N := nSqJ) (sc := defScope sSqJ) (by decide +kernel)) (AE.sub ix_tup (AE.var 9 rfl (AE.int ⟨_, p2_ixT rfl, _, rfl, Comp.to [14] ((List.replicate 4 Ev).map fun X => dDue (redR X)) (by decide) (by simp) (by simp) (noOwn (by cases so <;> rfl)) ?_ ?_⟩)))))
  · intro i x y hx hy s0 H0 Cc cl fp
    obtain ⟨U, hU, rfl⟩ := map_get hx
    have eU : U = Ev := (List.mem_replicate.mp (List.mem_of_getElem? hU)).2
    have ey : y = dDue (redR U) := by rw [List.getElem?_map, hU] at hy; exact (Option.some.inj hy).symm
    subst eU
    refine AG.name 14 scSqJ.nd fun s0 H0 C0 cl fp => ATs.nil ⟨rfl, fun s0 H0 C0 cl fp => ?_⟩
    exact AE.call C3 (hr.mono (by decide)) rfl (AA.cons (AE.var 14 rfl (AA.nil ⟨OkA.d rfl rfl, redR U, n, by omega, rfl, _, rfl, rfl, ey.symm⟩)))
  refine Do.frz 10 rfl ?_
  show Do S _ _ (stJ j' A0 B0 C0 n so (some (.lst ([A0, B0, C0].map fun X => dSp n (redR X)))) Ev (some (dSp n (redR X))) (some (dSp n (redR Y))) (some (dSp n (redR Z))) (some (tol (.lst ((List.replicate 4 Ev).map fun X => dSp n (redR X))))) (some (.lst ((List.replicate 4 Ev).map fun X => dDue (redR X)))) none none none) _
  refine Do.cons (DoS.ite (AT.not (AT.val (AE.call C6 (hr.mono (by decide)) rfl (AA.cons (AE.var 10 rfl (AA.cons (AF.imm (AF.bin op_rep (AE.lst (AA.cons (AE.call C5 (hr.mono (by decide)) rfl (AA.cons (AE.call C4 (hr.mono (by decide)) rfl (AA.cons (AE.frz 5 rfl (AA.nil ⟨OkA.d rfl rfl, Ev, n, by omega, by omega, rE.len, rE.sm, rfl, _, rfl, ?_⟩)))))))))))))))))
  refine AA.nil ⟨OkA.d rfl rfl, redR Ev, by omega, rfl, _, rfl, AA.nil ⟨[dDue (redR Ev)], rfl, by simp, AE.int ⟨_, p2f_rep (n := 4) (by simp) (by decide), _, rfl, ?_⟩⟩⟩
  refine AA.nil ⟨OkA.d rfl rfl, .lst ((List.replicate 4 Ev).map fun X => dDue (redR X)), ?_, rfl, _, rfl, true, rfl, ?_⟩
  · refine dat_lst (by simp) fun v hv => ?_
    obtain ⟨U, hU, rfl⟩ := List.mem_map.mp hv
    have eU : U = Ev := (List.mem_replicate.mp hU).2
    subst eU
    refine dat_told (dat_two (dat_rows (by omega) fun r hr => ?_) ((dat_int _).le (by decide)))
    rw [(rE.red.each r hr).2]; omega
  rw [if_neg (by decide)]
  refine Do.nil (Do.cons (DoS.set 11 scSqJ.nd (AE.sub ix_list (AE.sub ix_tup (AE.var 9 rfl (AE.int ⟨_, p2_ixT rfl, AE.int ⟨dSp n (redR Ev), p2_ixL (atI_nat (i := 0) rfl), ?_⟩⟩))))))
  refine Do.cons (DoS.set 12 scSqJ.nd (AE.sub ix_list (AE.sub ix_tup (AE.var 9 rfl (AE.int ⟨_, p2_ixT rfl, AE.int ⟨dSp n (redR Ev), p2_ixL (atI_nat (i := 1) rfl), ?_⟩⟩)))))
  refine Do.cons (DoS.set 13 scSqJ.nd (AE.heard (lv := 10) (Hears.of FH hmg hbg scHeard (.inl rfl)) rfl rfl TB rfl hmT hu hr (LamX.lamS_by (sc := defScope sSqJ) (by decide +kernel)) rfl (fun q cl pm cv ctv => rfl) fun A' outer' s' H0 f' c' hr' => ?_))
  refine AE.lst (AA.cons (within_E CW K (hr'.mono (by decide)) rfl x rE (AE.var 6 rfl ⟨rfl, AE.var 11 rfl ⟨rfl, ?_⟩⟩)))
  refine AA.cons (within_E CW K (hr'.mono (by decide)) rfl y xy (AE.var 7 rfl ⟨rfl, or_E CO K hr' rfl x y (AE.var 6 rfl ⟨rfl, AE.var 7 rfl ⟨rfl, rfl, ?_⟩⟩)⟩))
  refine AA.cons (within_E CW K (hr'.mono (by decide)) rfl rE rE (AE.var 11 rfl ⟨rfl, AE.var 12 rfl ⟨rfl, ?_⟩⟩))
  refine AA.cons (AE.eqOb CE rfl K.nf (hr'.mono (by decide)) rfl (AE.var 11 rfl (AE.var 12 rfl ⟨_, _, rfl, rfl, redR Ev, n, rfl, _, rfl, ?_⟩)))
  rw [within_sub x rE fun r hr => (memE2 r).mpr (.inl hr), within_sub y xy fun r hr => by simp [hr], within_sub rE rE fun r hr => hr]
  refine AA.nil ⟨[.bl true, .bl true, .bl true, .bl true], rfl, by simp, ?_⟩
  refine Do.one (DoS.ret (AE.call C6 (hr.mono (by decide)) rfl (AA.cons (AE.var 13 rfl (AA.cons (AE.tup (AA.cons (AE.str (AA.cons (AF.imm (AF.bin op_rep (AE.lst (AA.cons (AE.bl (AA.nil ⟨[.bl true], rfl, by simp, AE.int ⟨_, p2f_rep (n := 4) (by simp) (by decide), _, rfl, ?_⟩⟩)))))))))))))))
  refine AA.nil ⟨[.str "told", .lst [.bl true, .bl true, .bl true, .bl true]], rfl, by simp, AA.nil ⟨OkA.d rfl rfl, tol (.lst [.bl true, .bl true, .bl true, .bl true]), ?_, rfl, _, rfl, fin1 0 rfl rfl (hk j' hj')⟩⟩
  refine (dat_told (n := 1) (dat_lst (n := 0) (by simp) fun v hv => ?_)).le (by decide)
  simp only [List.mem_cons, List.not_mem_nil, or_false] at hv
  rcases hv with rfl | rfl | rfl | rfl <;> exact dat_bl true
end
end K21
/-! Chains of Spaces. -/
namespace K21
open PySem PySem.Spec PyProof.Rows L2 Evl AX
open RX (at_ prim gcdL lead isZ isZb redF wo addR redR leadV kerR Rws KR JR CR)
abbrev sSqCh : Stmt := topS 43
abbrev nSqCh : List Str := ["jar", "some", "wide", "units_now", "lists_now", "one", "spaces_now", "i", "j", "reduced_now", "owed", "two", "k", "at", "space"]
theorem scSqCh : FnScope nSqCh ["jar", "some", "wide"] (defScope sSqCh) := ⟨rfl, rfl, rfl, by decide +kernel, rfl, by decide +kernel, by decide +kernel⟩
def unitR (n k : Nat) : RX.Row := (List.range n).map fun a => if a = k then (1 : Int) else 0
def unitsR (n : Nat) : List RX.Row := (List.range n).map (unitR n)
theorem unitR_len {n k : Nat} : (unitR n k).length = n := by unfold unitR; simp
theorem unitR_at {n k a : Nat} (h : a < n) : at_ (unitR n k) a = if a = k then 1 else 0 := by
  rw [RX.at_eq_get (by rw [unitR_len]; exact h)]
  unfold unitR; simp
theorem unitR_at' {n k a : Nat} (h : n ≤ a) : at_ (unitR n k) a = 0 := RX.at_ge (by rw [unitR_len]; exact h)
theorem unitR_bd {n k : Nat} : RX.BdN (2 ^ 24) (unitR n k) := fun i => by
  by_cases h : i < n
  · rw [unitR_at h]; split <;> decide
  · rw [unitR_at' (by omega)]; decide
theorem units_rws {n : Nat} (h1 : 1 ≤ n) (h7 : n ≤ 7) : Rws n (unitsR n) := ⟨h1, h7, by unfold unitsR; simp; omega, fun r hr => by
  obtain ⟨k, _, rfl⟩ := List.mem_map.mp hr
  exact unitR_len, fun r hr => by
  obtain ⟨k, _, rfl⟩ := List.mem_map.mp hr
  exact unitR_bd⟩
theorem units_span {n : Nat} {r : RX.Row} (hl : r.length = n) : RX.InS (unitsR n) (at_ r) := by
  have key : ∀ m, m ≤ n → RX.Lin (unitsR n) (fun i => if i < m then at_ r i else 0) := fun m => by
    induction m with
    | zero => intro _; exact RX.Lin.zero.congr fun i => by simp
    | succ m ih =>
      intro hm
      refine ((ih (by omega)).add ((RX.Lin.mem (r := unitR n m) (List.mem_map.mpr ⟨m, List.mem_range.mpr (by omega), rfl⟩)).smul (at_ r m))).congr fun i => ?_
      show (if i < m then at_ r i else 0) + at_ r m * at_ (unitR n m) i = (if i < m + 1 then at_ r i else 0)
      by_cases hi : i < n
      · rw [unitR_at hi]
        by_cases e : i = m
        · subst e; simp
        · by_cases q : i < m
          · rw [if_neg e, if_pos q, if_pos (show i < m + 1 by omega)]; simp
          · rw [if_neg e, if_neg q, if_neg (show ¬ i < m + 1 by omega)]; simp
      · rw [unitR_at' (by omega), if_neg (by omega), if_neg (by omega)]; simp
  refine (RX.InS.of (key n (Nat.le_refl n))).congr fun i => ?_
  split
  · rfl
  · exact (RX.at_ge (by omega)).symm
/-- the chain's lists -/
def chL (A : List RX.Row) (n : Nat) : List (List RX.Row) := [[], A.take 1, A.take 2, A, A ++ (unitsR n).take 1, unitsR n]
theorem chL_rws {A : List RX.Row} {n : Nat} (a : Rws n A) (h : A.length ≤ 10) : ∀ X ∈ chL A n, Rws n X ∧ X.length ≤ 20 := fun X hX => by
  have u := units_rws a.n1 a.n7
  have n7 := a.n7
  have ul : (unitsR n).length = n := by unfold unitsR; simp
  unfold chL at hX
  simp only [List.mem_cons, List.not_mem_nil, or_false] at hX
  rcases hX with rfl | rfl | rfl | rfl | rfl | rfl
  · exact ⟨a.sub (fun r hr => by simp at hr) (by simp), by simp⟩
  · exact ⟨a.sub (fun r hr => List.mem_of_mem_take hr) (by simp; omega), by simp; omega⟩
  · exact ⟨a.sub (fun r hr => List.mem_of_mem_take hr) (by simp; omega), by simp; omega⟩
  · exact ⟨a, by omega⟩
  · exact ⟨a.app (u.sub (fun r hr => List.mem_of_mem_take hr) (by simp; omega)) (by simp; omega), by simp; omega⟩
  · exact ⟨u, by omega⟩
theorem chL_sub {A : List RX.Row} {n i j : Nat} {X Y : List RX.Row} (hij : i ≤ j) (h5 : j < 5) (hX : (chL A n)[i]? = some X) (hY : (chL A n)[j]? = some Y) : ∀ r ∈ X, r ∈ Y := by
  unfold chL at hX hY
  have t12 : ∀ r ∈ A.take 1, r ∈ A.take 2 := fun r hr => (List.take_sublist_take_left (by decide : 1 ≤ 2)).subset hr
  match i, j, hij, h5 with
  | 0, _, _, _ => simp at hX; subst hX; intro r hr; simp at hr
  | 1, 1, _, _ => rw [hX] at hY; cases hY; exact fun r hr => hr
  | 1, 2, _, _ => simp at hX hY; subst hX hY; exact t12
  | 1, 3, _, _ => simp at hX hY; subst hX hY; exact fun r hr => List.mem_of_mem_take hr
  | 1, 4, _, _ => simp at hX hY; subst hX hY; exact fun r hr => by simp [List.mem_of_mem_take hr]
  | 2, 2, _, _ => rw [hX] at hY; cases hY; exact fun r hr => hr
  | 2, 3, _, _ => simp at hX hY; subst hX hY; exact fun r hr => List.mem_of_mem_take hr
  | 2, 4, _, _ => simp at hX hY; subst hX hY; exact fun r hr => by simp [List.mem_of_mem_take hr]
  | 3, 3, _, _ => rw [hX] at hY; cases hY; exact fun r hr => hr
  | 3, 4, _, _ => simp at hX hY; subst hX hY; exact fun r hr => by simp [hr]
  | 4, 4, _, _ => rw [hX] at hY; cases hY; exact fun r hr => hr
  | i + 5, _, _, _ => omega
theorem chL_span {A : List RX.Row} {n i j : Nat} {X Y : List RX.Row} (a : Rws n A) (h : A.length ≤ 10) (hij : i ≤ j) (hX : (chL A n)[i]? = some X) (hY : (chL A n)[j]? = some Y) : ∀ r ∈ X, RX.InS (redR Y) (at_ r) := fun r hr => by
  obtain ⟨y, _⟩ := chL_rws a h Y (List.mem_of_getElem? hY)
  obtain ⟨x, _⟩ := chL_rws a h X (List.mem_of_getElem? hX)
  by_cases h5 : j < 5
  · exact RX.redR_in y.len r (chL_sub hij h5 hX hY r hr)
  · have hj : j = 5 := by have := (List.getElem?_eq_some_iff.mp hY).1; unfold chL at this; simp at this; omega
    subst hj
    have : Y = unitsR n := by unfold chL at hY; simp at hY; exact hY.symm
    subst this
    exact (units_span (x.len r hr)).trans fun o ho => RX.redR_in y.len o ho
/-- within, along the chain -/
theorem chL_within {A : List RX.Row} {n i j : Nat} {X Y : List RX.Row} (a : Rws n A) (h : A.length ≤ 10) (hX : (chL A n)[i]? = some X) (hY : (chL A n)[j]? = some Y) : ((redR X).all fun r => inB (redR Y) r) = (decide (i ≤ j) || decide (redR X = redR Y)) := by
  obtain ⟨y, _⟩ := chL_rws a h Y (List.mem_of_getElem? hY)
  obtain ⟨x, _⟩ := chL_rws a h X (List.mem_of_getElem? hX)
  by_cases hij : i ≤ j
  · rw [decide_eq_true hij, Bool.true_or, within_iff x y]
    exact chL_span a h hij hX hY
  · rw [decide_eq_false hij, Bool.false_or]
    by_cases e : redR X = redR Y
    · rw [decide_eq_true e, within_iff x y, ← e]
      exact fun r hr => RX.redR_in x.len r hr
    · rw [decide_eq_false e]
      refine Bool.eq_false_iff.mpr fun z => e ?_
      have z := (within_iff x y).mp z
      have z2 := chL_span a h (by omega : j ≤ i) hY hX
      exact RX.redR_same x.len y.len (fun r hr => (z r hr).trans fun o ho => RX.in_redR y.len o ho) fun r hr => (z2 r hr).trans fun o ho => RX.in_redR x.len o ho
theorem cut_to {xs : List DV} {k : Nat} : AX.cutD xs none (some (k : Int)) = xs.take k := by
  unfold AX.cutD
  rw [HT.sIx_none, HT.sIx_nat]
  simp
theorem cut_from {xs : List DV} {k : Nat} : AX.cutD xs (some (k : Int)) none = xs.drop k := by
  unfold AX.cutD
  rw [HT.sIx_none, HT.sIx_nat]
  by_cases h : k ≤ xs.length
  · rw [Nat.min_eq_left h, List.take_of_length_le (by simp)]
  · rw [Nat.min_eq_right (by omega), List.drop_eq_nil_of_le (show xs.length ≤ xs.length by omega), List.drop_eq_nil_of_le (by omega)]; simp
section
variable {P : Program} {w : World} {S : Sig} {mg : Str → Option Value} {base : Heap}
abbrev stC (j : List DV) (A : List RX.Row) (n : Nat) (un ls on sp i jj re ow tw : Option DV) : Sto := [some (.own (some 0) (.lst j)), some (.imm (dRs A)), some (.imm (.int n)), un.map .imm, ls.map .imm, on.map .imm, sp.map .imm, i.map .imm, jj.map .imm, re.map .imm, ow.map .imm, tw.map .imm, none, none, none]
def W_sqch : AW1 := fun avs k => ∃ (A : List RX.Row) (n m : Nat) (j : List DV), Rws n A ∧ A.length ≤ 10 ∧ Jar m j ∧ m + 2 ≤ cap ∧ avs = [.own (some 0) (.lst j), .imm (dRs A), .imm (.int n)] ∧ ∀ j', Jar (m + 2) j' → k [.lst j'] (.imm (.bl true))
theorem ok_sqch {f c T g : Addr} {fd fdg : FuncData} (F : FunC S.K "_law_sq_chain_right" "_law_sq_chain_right" sSqCh f fd c) (TB : LamX.TabB base mg c T) (hmT : (T, lamN "_law_sq_chain_right") ∈ S.T) (hu : ∀ q ∈ S.T, q.1 = T → q.2 = lamN "_law_sq_chain_right")
    (FH : L2.Fun S.K "_law_heard" "_law_heard" sHeard g fdg) (hmg : mg "_law_heard" = some (.ref g)) (hbg : L2.Binds S.K fdg ["deed"] [])
    (C1 : Can P w mg base S 12 "_law_sq_space" ["some", "wide"] W_sqs) (C2 : Can P w mg base S 1 "_law_take" ["jar", "many"] W_take) (C4 : Can P w mg base S 5 "_law_mw_reduced" ["some"] W_mwred) (C6 : Can P w mg base S 7 "_law_yq_same" ["heard_one", "owed"] (W_same 5)) (CW : CanM P w mg base S 6 0 "is_within" ["self", "other"] W_spwithin)
    (K : SpaceK S mg) (mr : mg "range" = none) (mt : mg "tuple" = none) (mi : mg "int" = none) : FnOk P w S.K mg base CX0 13 f fd ["jar", "some", "wide"] (spA S 3 W_sqch) := by
  refine fn_okC F scSqCh fun A outer s H E hr avs kk hl ⟨A0, n, m, j, a, zA, hj, hm, ha, hk⟩ => ?_
  subst ha
  have n7 := a.n7
  have n1 := a.n1
  have ul : (unitsR n).length = n := by unfold unitsR; simp
  refine Do.cons (DoS.setLcR [("k", 12)] 3 rfl scSqCh.nd mr (blkOk_by (N := nSqCh) (sc := defScope sSqCh) (by decide +kernel)) (AE.var 2 rfl ⟨n, rfl, by omega, by omega, Comp.to [12] ((unitsR n).map dR) (by decide) (by rw [rngD_len]; simp [ul]) (by rw [rngD_len]; simp; omega) (noOwn rfl) ?_ ?_⟩))
  · intro i x y hx hy s0 H0 Cc cl fp
    obtain ⟨hi, rfl⟩ := range_get (lo := 0) hx
    have hi : i < n := by simpa using hi
    rw [Int.zero_add]
    have ey : y = dR (unitR n i) := by
      unfold unitsR at hy
      rw [List.map_map, List.getElem?_map, List.getElem?_range hi] at hy
      exact (Option.some.inj hy).symm
    refine AG.name 12 scSqCh.nd fun s0 H0 C0 cl fp => ATs.nil ⟨rfl, fun s0 H0 C0 cl fp => ?_⟩
    refine AE.bt call_tuple_of mt (by decide +kernel) (AA.cons (AF.imm (AF.lcR [("at", 13)] rfl scSqCh.nd mr (blkOk_by (N := nSqCh) (sc := ⟨.function, [(".0", .local), ("k", .cell), ("tuple", .globalImplicit), ("range", .globalImplicit), ("wide", .cell)], false, false, []⟩) (scope := ⟨.function, [(".0", .local), ("at", .local), ("int", .globalImplicit), ("k", .free)], false, false, []⟩) (own := [("at", 13)]) (by decide +kernel)) (AE.var 2 rfl ⟨n, rfl, by omega, by omega, Comp.to [13] ((unitR n i).map DV.int) (by decide) (by rw [rngD_len]; simp [unitR]) (by rw [rngD_len]; simp; omega) (noOwn rfl) ?_ ?_⟩))))
    · intro q x y hx hy s0 H0 C0 cl fp
      obtain ⟨hq, rfl⟩ := range_get (lo := 0) hx
      have hq : q < n := by simpa using hq
      rw [Int.zero_add]
      have et : y = .int (if q = i then (1 : Int) else 0) := by
        unfold unitR at hy
        rw [List.map_map, List.getElem?_map, List.getElem?_range hq] at hy
        exact (Option.some.inj hy).symm
      refine AG.name 13 scSqCh.nd fun s0 H0 C0 cl fp => ATs.nil ⟨rfl, fun s0 H0 C0 cl fp => AE.bt call_int1 mi (by decide +kernel) (AA.cons (AE.cmp op_eq (AE.var 13 rfl (AE.var 12 rfl ⟨_, p2_eqI, AA.nil ⟨[.bl _], _, rfl, pc_intB.n, rfl, ?_⟩⟩))))⟩
      rw [et]
      by_cases e : q = i
      · rw [if_pos e, decide_eq_true (by omega)]; rfl
      · rw [if_neg e, decide_eq_false (by omega)]; rfl
    · exact ⟨_, rfl, AA.nil ⟨[.lst _], _, rfl, pcn_tuple (.inl rfl), rfl, ey.symm⟩⟩
  refine Do.frz 3 rfl ?_
  show Do S _ _ (stC j A0 n (some (dRs (unitsR n))) none none none none none none none none) _
  refine Do.cons (DoS.set 4 scSqCh.nd (AE.lst (AA.cons (AE.lst (AA.nil ⟨[], rfl, by decide, ?_⟩)))))
  refine AA.cons (AF.imm (AF.slice (AE.var 1 rfl (AO.none (AO.some (AE.int ⟨1, rfl, _, rfl, _, rfl, ?_⟩))))))
  refine AA.cons (AF.imm (AF.slice (AE.var 1 rfl (AO.none (AO.some (AE.int ⟨2, rfl, _, rfl, _, rfl, ?_⟩))))))
  refine AA.cons (AE.var 1 rfl (AA.cons (AF.imm (AF.bin op_cat (AE.var 1 rfl (AF.imm (AF.slice (AE.var 3 rfl (AO.none (AO.some (AE.int ⟨1, rfl, _, rfl, _, rfl, _, p2f_cat (xs := A0.map dR) (ys := AX.cutD ((unitsR n).map dR) none (some ((1 : Nat) : Int))) ?_, _, rfl, ?_⟩)))))))))))
  · rw [cut_to]; simp; omega
  refine AA.cons (AE.var 3 rfl (AA.nil ⟨(chL A0 n).map dRs, ?_, by simp [chL], ?_⟩))
  · show [Arg.d _, Arg.d (.lst (AX.cutD (A0.map dR) none (some ((1 : Nat) : Int)))), Arg.d (.lst (AX.cutD (A0.map dR) none (some ((2 : Nat) : Int)))), Arg.d _, Arg.d (.lst (A0.map dR ++ AX.cutD ((unitsR n).map dR) none (some ((1 : Nat) : Int)))), Arg.d _] = _
    rw [cut_to, cut_to, cut_to, ← List.map_take, ← List.map_take, ← List.map_take, ← List.map_append]; rfl
  have hLs := chL_rws a zA
  have hl6 : (chL A0 n).length = 6 := rfl
  have hsub := @chL_within A0 n
  show Do S _ _ (stC j A0 n (some (dRs (unitsR n))) (some (.lst ((chL A0 n).map dRs))) none none none none none none none) _
  refine Do.cons (DoS.setLcL [("one", 5)] 6 rfl scSqCh.nd rfl (blkOk_by (N := nSqCh) (sc := defScope sSqCh) (by decide +kernel)) (AE.var 4 rfl ⟨_, rfl, Comp.to [5] ((chL A0 n).map fun X => dSp n (redR X)) (by decide) (by simp) (by simp [hl6]) (noOwn rfl) ?_ ?_⟩))
  · intro i x y hx hy s0 H0 Cc cl fp
    obtain ⟨X, hX, rfl⟩ := map_get hx
    obtain ⟨q, zq⟩ := hLs X (List.mem_of_getElem? hX)
    have ey : y = dSp n (redR X) := by rw [List.getElem?_map, hX] at hy; exact (Option.some.inj hy).symm
    refine AG.name 5 scSqCh.nd fun s0 H0 C0 cl fp => ATs.nil ⟨rfl, fun s0 H0 C0 cl fp => ?_⟩
    exact AE.call C1 hr rfl (AA.cons (AE.var 5 rfl (AA.cons (AE.var 2 rfl (AA.nil ⟨OkA.d rfl rfl, X, n, n1, n7, by omega, q.len, q.sm, rfl, _, rfl, rfl, ey.symm⟩)))))
  refine Do.frz 6 rfl ?_
  show Do S _ _ (stC j A0 n (some (dRs (unitsR n))) (some (.lst ((chL A0 n).map dRs))) none (some (.lst ((chL A0 n).map fun X => dSp n (redR X)))) none none none none none) _
  refine Do.cons (DoS.ite (AT.cmp (op_neD hr.units) (AF.imm (AF.lcL [("space", 14)] rfl scSqCh.nd rfl (blkOk_by (N := nSqCh) (sc := defScope sSqCh) (by decide +kernel)) (AE.var 6 rfl ⟨_, rfl, Comp.filt [14] noD (by decide) (by simp [hl6]) (noOwn rfl) ?_ ?_⟩)))))
  · intro q x hx s0 H0 Cc cl fp
    obtain ⟨X, hX, rfl⟩ := map_get hx
    refine AG.name 14 scSqCh.nd fun s0 H0 C0 cl fp => ATs.one (AT.cmp op_isN (AE.var 14 rfl (AE.non ⟨_, p2_isF rfl, rfl, ?_⟩)))
    rw [if_neg (by decide)]; rfl
  rw [noD_map]
  refine ⟨_, rfl, AE.lst (AA.nil ⟨[], rfl, by decide, _, p2_nilN, ?_⟩)⟩
  rw [if_neg (by decide)]
  refine Do.nil (Do.cons (DoS.par 7 8 scSqCh.nd rfl (AA.cons (AE.call C2 (hr.mono (by decide)) rfl (AA.own 0 rfl (AA.cons (AE.int (AA.nil ⟨OkA.one (i := 0) rfl rfl rfl, j, m, 6, hj, by omega, by decide, by decide, rfl, fun j1 v1 hj1 v10 v16 => ⟨_, rfl, ?_⟩⟩))))))))
  refine AA.cons (AE.call C2 (hr.mono (by decide)) rfl (AA.own 0 rfl (AA.cons (AE.int (AA.nil ⟨OkA.one (i := 0) rfl rfl rfl, j1, m + 1, 6, hj1, by omega, by decide, by decide, rfl, fun j2 v2 hj2 v20 v26 => ⟨_, rfl, AA.nil ⟨_, _, rfl, ?_⟩⟩⟩)))))
  obtain ⟨i, rfl⟩ : ∃ i : Nat, v1 = (i : Int) := ⟨v1.toNat, by omega⟩
  obtain ⟨i2, rfl⟩ : ∃ i : Nat, v2 = (i : Int) := ⟨v2.toNat, by omega⟩
  have hi : i < (chL A0 n).length := by rw [hl6]; omega
  have hi2 : i2 < (chL A0 n).length := by rw [hl6]; omega
  show Do S _ _ (stC j2 A0 n (some (dRs (unitsR n))) (some (.lst ((chL A0 n).map dRs))) none (some (.lst ((chL A0 n).map fun X => dSp n (redR X)))) (some (.int i)) (some (.int i2)) none none none) _
  obtain ⟨X, hX⟩ : ∃ X, (chL A0 n)[i]? = some X := ⟨_, List.getElem?_eq_getElem hi⟩
  obtain ⟨Y, hY⟩ : ∃ X, (chL A0 n)[i2]? = some X := ⟨_, List.getElem?_eq_getElem hi2⟩
  obtain ⟨x, zX⟩ := hLs X (List.mem_of_getElem? hX)
  obtain ⟨y, zY⟩ := hLs Y (List.mem_of_getElem? hY)
  have wxy := hsub a zA hX hY
  have wyx := hsub a zA hY hX
  refine Do.cons (DoS.setLcL [("k", 12)] 9 rfl scSqCh.nd rfl (blkOk_by (N := nSqCh) (sc := defScope sSqCh) (by decide +kernel)) (AE.lst (AA.cons (AE.var 7 rfl (AA.cons (AE.var 8 rfl (AA.nil ⟨[.int i, .int i2], rfl, by simp, _, rfl, Comp.to [12] [dRs (redR X), dRs (redR Y)] (by decide) (by simp) (by simp) (noOwn rfl) ?_ ?_⟩)))))))
  · intro q v u hv hu' s0 H0 Cc cl fp
    refine AG.name 12 scSqCh.nd fun s0 H0 C0 cl fp => ATs.nil ⟨rfl, fun s0 H0 C0 cl fp => ?_⟩
    match q with
    | 0 =>
      have hv : DV.int i = v := Option.some.inj hv
      have hu' : dRs (redR X) = u := Option.some.inj hu'
      subst hv hu'
      exact AE.call C4 (hr.mono (by decide)) rfl (AA.cons (AE.sub ix_list (AE.var 4 rfl (AE.var 12 rfl ⟨dRs X, p2_ixL (atI_nat (by rw [List.getElem?_map, hX] <;> rfl)), AA.nil ⟨OkA.d rfl rfl, X, n, by omega, by omega, x.len, x.sm, rfl, _, rfl, rfl, rfl⟩⟩))))
    | 1 =>
      have hv : DV.int i2 = v := Option.some.inj hv
      have hu' : dRs (redR Y) = u := Option.some.inj hu'
      subst hv hu'
      exact AE.call C4 (hr.mono (by decide)) rfl (AA.cons (AE.sub ix_list (AE.var 4 rfl (AE.var 12 rfl ⟨dRs Y, p2_ixL (atI_nat (by rw [List.getElem?_map, hY] <;> rfl)), AA.nil ⟨OkA.d rfl rfl, Y, n, by omega, by omega, y.len, y.sm, rfl, _, rfl, rfl, rfl⟩⟩))))
    | q + 2 => simp at hv
  refine Do.frz 9 rfl ?_
  show Do S _ _ (stC j2 A0 n (some (dRs (unitsR n))) (some (.lst ((chL A0 n).map dRs))) none (some (.lst ((chL A0 n).map fun X => dSp n (redR X)))) (some (.int i)) (some (.int i2)) (some (.lst [dRs (redR X), dRs (redR Y)])) none none) _
  have key : ∀ {Xc : Cx} {δ : Sto} {k : Sto → DV → Prop} {e1 e2 : Expr} {b : Bool} {pos : Pos}, (AE S Xc e1 δ fun δ1 d => d = .bl b ∧ δ1 = δ) → (AE S Xc e2 δ fun δ1 d => d = .bl (decide (redR X = redR Y)) ∧ δ1 = δ) → k δ (.bl (b || decide (redR X = redR Y))) → AE S Xc (.BoolOp .Or [e1, e2] pos) δ k := fun h1 h2 hk => by
    refine AE.or (h1.imp fun δ1 d ⟨e1, e2⟩ => ⟨_, e1, ?_⟩)
    subst e1 e2
    split
    · rename_i hb; subst hb; simpa using hk
    · rename_i hb
      refine AE.one (h2.imp fun δ2 d ⟨e1, e2⟩ => ?_)
      subst e1 e2
      have hb := Bool.eq_false_iff.mpr hb
      subst hb; simpa using hk
  refine Do.cons (DoS.set 10 scSqCh.nd (AE.tup (AA.cons (key (b := decide ((i : Int) ≤ i2)) ?_ ?_ (AA.cons (key (b := decide ((i : Int) ≥ i2)) ?_ ?_ ?_))))))
  · exact AE.cmp op_le (AE.var 7 rfl (AE.var 8 rfl ⟨_, p2_iib, rfl, rfl⟩))
  · exact AE.cmp (op_eqD hr.units) (AE.sub ix_list (AE.var 9 rfl (AE.int ⟨dRs (redR X), p2_ixL (atI_nat (i := 0) rfl), AE.sub ix_list (AE.var 9 rfl (AE.int ⟨dRs (redR Y), p2_ixL (atI_nat (i := 1) rfl), _, p2_eqRows, rfl, rfl⟩))⟩)))
  · exact AE.cmp op_ge (AE.var 7 rfl (AE.var 8 rfl ⟨_, p2_iib, rfl, rfl⟩))
  · exact AE.cmp (op_eqD hr.units) (AE.sub ix_list (AE.var 9 rfl (AE.int ⟨dRs (redR X), p2_ixL (atI_nat (i := 0) rfl), AE.sub ix_list (AE.var 9 rfl (AE.int ⟨dRs (redR Y), p2_ixL (atI_nat (i := 1) rfl), _, p2_eqRows, rfl, rfl⟩))⟩)))
  have e1 : (decide ((i : Int) ≤ i2) || decide (redR X = redR Y)) = (redR X).all fun r => inB (redR Y) r := by rw [wxy]; simp
  have e2 : (decide ((i : Int) ≥ i2) || decide (redR X = redR Y)) = (redR Y).all fun r => inB (redR X) r := by rw [wyx]; simp [eq_comm]
  rw [e1, e2]
  generalize eb1 : ((redR X).all fun r => inB (redR Y) r) = b1
  generalize eb2 : ((redR Y).all fun r => inB (redR X) r) = b2
  refine AA.nil ⟨[.bl b1, .bl b2], rfl, by simp, ?_⟩
  refine Do.cons (DoS.asg (js := [5, 11]) (AE.tup (AA.cons (AE.sub ix_list (AE.var 6 rfl (AE.var 7 rfl ⟨dSp n (redR X), p2_ixL (atI_nat (by rw [List.getElem?_map, hX] <;> rfl)), ?_⟩))))))
  refine AA.cons (AE.sub ix_list (AE.var 6 rfl (AE.var 8 rfl ⟨dSp n (redR Y), p2_ixL (atI_nat (by rw [List.getElem?_map, hY] <;> rfl)), ?_⟩)))
  refine AA.nil ⟨[dSp n (redR X), dSp n (redR Y)], rfl, by simp, AG.tup rfl rfl (AGs.cons 5 scSqCh.nd (AGs.cons 11 scSqCh.nd (AGs.nil ?_)))⟩
  show Do S _ _ (stC j2 A0 n (some (dRs (unitsR n))) (some (.lst ((chL A0 n).map dRs))) (some (dSp n (redR X))) (some (.lst ((chL A0 n).map fun X => dSp n (redR X)))) (some (.int i)) (some (.int i2)) (some (.lst [dRs (redR X), dRs (redR Y)])) (some (.tup [.bl b1, .bl b2])) (some (dSp n (redR Y)))) _
  refine Do.one (DoS.ret (AE.call C6 (hr.mono (by decide)) rfl (AA.cons (AE.heard (lv := 6) (Hears.of FH hmg hbg scHeard (.inl rfl)) rfl rfl TB rfl hmT hu (hr.mono (by decide)) (LamX.lamS_by (sc := defScope sSqCh) (by decide +kernel)) rfl (fun q cl pm cv ctv => rfl) fun A' outer' s' H0 f' c' hr' => ?_))))
  refine AE.tup (AA.cons (within_E CW K hr' rfl x y (AE.var 5 rfl ⟨rfl, AE.var 11 rfl ⟨rfl, ?_⟩⟩)))
  refine AA.cons (within_E CW K hr' rfl y x (AE.var 11 rfl ⟨rfl, AE.var 5 rfl ⟨rfl, ?_⟩⟩))
  rw [eb1, eb2]
  refine AA.nil ⟨[.bl b1, .bl b2], rfl, by simp, AA.cons (AE.tup (AA.cons (AE.str (AA.cons (AE.var 10 rfl (AA.nil ⟨[.str "told", .tup [.bl b1, .bl b2]], rfl, by simp, ?_⟩))))))⟩
  exact AA.nil ⟨OkA.d rfl rfl, tol (.tup [.bl b1, .bl b2]), (dat_told (dat_two (dat_bl _) (dat_bl _))).le (by decide), rfl, _, rfl, fin1 0 rfl rfl (hk j2 hj2)⟩
end
end K21
/-! Planted lists, the whole law. -/
namespace K21
open PySem PySem.Spec PyProof.Rows L2 Evl AX
open RX (at_ prim gcdL lead isZ isZb redF wo addR redR leadV kerR Rws KR JR CR)
abbrev sSqP : Stmt := topS 44
abbrev sLed : Stmt := topS 45
abbrev sLaw : Stmt := topS 46
abbrev nSqP : List Str := ["jar", "wide", "k", "units_now", "common", "alone", "mixed_now", "at", "row"]
theorem scSqP : FnScope nSqP ["jar", "wide"] (defScope sSqP) := ⟨rfl, rfl, rfl, by decide +kernel, rfl, by decide +kernel, by decide +kernel⟩
abbrev nLed : List Str := ["script", "jar", "go", "wide", "one", "two", "three", "first", "second", "again"]
theorem scLed : FnScope nLed ["script"] (defScope sLed) := ⟨rfl, rfl, rfl, by decide +kernel, rfl, by decide +kernel, by decide +kernel⟩
theorem scLaw : FnScope ["script"] ["script"] (defScope sLaw) := ⟨rfl, rfl, rfl, by decide +kernel, rfl, by decide +kernel, by decide +kernel⟩
/-- a row and three times another -/
def plus3 (n : Nat) (r u : RX.Row) : RX.Row := (List.range n).map fun a => at_ r a + 3 * at_ u a
theorem plus3_len {n : Nat} {r u : RX.Row} : (plus3 n r u).length = n := by unfold plus3; simp
theorem bd1 {n k : Nat} : RX.BdN 1 (unitR n k) := fun i => by
  by_cases h : i < n
  · rw [unitR_at h]; split <;> decide
  · rw [unitR_at' (by omega)]; decide
theorem plus3_bd {n : Nat} {r u : RX.Row} (hr : RX.BdN 1 r) (hu : RX.BdN 1 u) : RX.BdN (2 ^ 24) (plus3 n r u) := fun i => by
  by_cases h : i < n
  · rw [RX.at_eq_get (by rw [plus3_len]; exact h)]
    unfold plus3
    have h1 := hr i
    have h2 := hu i
    simp only [List.getElem_map, List.getElem_range]
    omega
  · rw [RX.at_ge (by rw [plus3_len]; omega)]; decide
section
variable {P : Program} {w : World} {S : Sig} {mg : Str → Option Value} {base : Heap}
abbrev stP (j : List DV) (n : Nat) (k un co al mi : Option DV) : Sto := [some (.own (some 0) (.lst j)), some (.imm (.int n)), k.map .imm, un.map .imm, co.map .imm, al.map .imm, mi.map .imm, none, none]
def W_sqp : AW1 := fun avs k => ∃ (n m : Nat) (j : List DV), 1 ≤ n ∧ n ≤ 7 ∧ Jar m j ∧ m + 8 ≤ cap ∧ avs = [.own (some 0) (.lst j), .imm (.int n)] ∧ ∀ j' A B, Jar (m + 8) j' → Rws n A → Rws n B → A.length ≤ 30 → B.length ≤ 30 → k [.lst j'] (.imm (.tup [dRs A, dRs B]))
theorem ok_sqp {f : Addr} {fd : FuncData} (F : L2.Fun S.K "_law_sq_planted" "_law_sq_planted" sSqP f fd) (C1 : Can P w mg base S 2 "_law_mixed" ["jar", "things"] W_mixed) (C2 : Can P w mg base S 1 "_law_take" ["jar", "many"] W_take) (ml : mg "len" = none) (mr : mg "range" = none) (mt : mg "tuple" = none) (mi : mg "int" = none) : FnOk P w S.K mg base CX0 3 f fd ["jar", "wide"] (spA S 2 W_sqp) := by
  refine fn_ok F scSqP fun cdv A outer s H E hr avs kk hl ⟨n, m, j, n1, n7, hj, hm, ha, hk⟩ => ?_
  subst ha
  have ul : (unitsR n).length = n := by unfold unitsR; simp
  refine Do.cons (DoS.set 3 scSqP.nd (AE.call C1 hr rfl (AA.own 0 rfl (AA.cons (AF.imm (AF.lcR [("k", 2)] rfl scSqP.nd mr (blkOk_by (N := nSqP) (sc := defScope sSqP) (by decide +kernel)) (AE.var 1 rfl ⟨n, rfl, by omega, by omega, Comp.to [2] ((unitsR n).map dR) (by decide) (by rw [rngD_len]; simp [ul]) (by rw [rngD_len]; simp; omega) (noOwn rfl) ?_ ?_⟩)))))))
  · intro i x y hx hy s0 H0 Cc cl fp
    obtain ⟨hi, rfl⟩ := range_get (lo := 0) hx
    have hi : i < n := by simpa using hi
    rw [Int.zero_add]
    have ey : y = dR (unitR n i) := by
      unfold unitsR at hy
      rw [List.map_map, List.getElem?_map, List.getElem?_range hi] at hy
      exact (Option.some.inj hy).symm
    refine AG.name 2 scSqP.nd fun s0 H0 C0 cl fp => ATs.nil ⟨rfl, fun s0 H0 C0 cl fp => ?_⟩
    refine AE.bt call_tuple_of mt (by decide +kernel) (AA.cons (AF.imm (AF.lcR [("at", 7)] rfl scSqP.nd mr (blkOk_by (N := nSqP) (sc := ⟨.function, [(".0", .local), ("k", .cell), ("tuple", .globalImplicit), ("range", .globalImplicit), ("wide", .cell)], false, false, []⟩) (scope := ⟨.function, [(".0", .local), ("at", .local), ("int", .globalImplicit), ("k", .free)], false, false, []⟩) (own := [("at", 7)]) (by decide +kernel)) (AE.var 1 rfl ⟨n, rfl, by omega, by omega, Comp.to [7] ((unitR n i).map DV.int) (by decide) (by rw [rngD_len]; simp [unitR]) (by rw [rngD_len]; simp; omega) (noOwn rfl) ?_ ?_⟩))))
    · intro q x y hx hy s0 H0 C0 cl fp
      obtain ⟨hq, rfl⟩ := range_get (lo := 0) hx
      have hq : q < n := by simpa using hq
      rw [Int.zero_add]
      have et : y = .int (if q = i then (1 : Int) else 0) := by
        unfold unitR at hy
        rw [List.map_map, List.getElem?_map, List.getElem?_range hq] at hy
        exact (Option.some.inj hy).symm
      refine AG.name 7 scSqP.nd fun s0 H0 C0 cl fp => ATs.nil ⟨rfl, fun s0 H0 C0 cl fp => AE.bt call_int1 mi (by decide +kernel) (AA.cons (AE.cmp op_eq (AE.var 7 rfl (AE.var 2 rfl ⟨_, p2_eqI, AA.nil ⟨[.bl _], _, rfl, pc_intB.n, rfl, ?_⟩⟩))))⟩
      rw [et]
      by_cases e : q = i
      · rw [if_pos e, decide_eq_true (by omega)]; rfl
      · rw [if_neg e, decide_eq_false (by omega)]; rfl
    · exact ⟨_, rfl, AA.nil ⟨[.lst _], _, rfl, pcn_tuple (.inl rfl), rfl, ey.symm⟩⟩
  refine ⟨_, rfl, AA.nil ⟨OkA.one (i := 0) rfl rfl rfl, j, (unitsR n).map dR, m, hj, by simp [ul]; omega, by simp [ul]; omega, rfl, fun j1 ds hj1 hp => ⟨_, rfl, ?_⟩⟩⟩
  obtain ⟨U, hU, rfl⟩ := perm_map_inv hp
  have hUl : U.length = n := by rw [hU.length_eq, ul]
  have hj1 : Jar (m + n) j1 := by simpa [ul] using hj1
  have hUr : ∀ r ∈ U, r.length = n ∧ RX.BdN 1 r := fun r hr => by
    obtain ⟨k, _, rfl⟩ := List.mem_map.mp (hU.mem_iff.mp hr)
    exact ⟨unitR_len, bd1⟩
  have e2 : ((n : Int) / 2) = ((n / 2 : Nat) : Int) := by omega
  show Do S _ _ (stP j1 n none (some (dRs U)) none none none) _
  refine Do.cons (DoS.par 4 5 scSqP.nd rfl (AA.cons (AF.imm (AF.slice (AE.var 3 rfl (AO.none (AO.some (AE.bin op_fdivX (AE.var 1 rfl (AE.int ⟨_, p2_ciii (wide_divX (a := 4) (by decide) (by simp; omega) (by decide) (by decide)), _, rfl, _, rfl, _, rfl, ?_⟩))))))))))
  refine AA.cons (AF.imm (AF.slice (AE.var 3 rfl (AO.some (AE.bin op_fdivX (AE.var 1 rfl (AE.int ⟨_, p2_ciii (wide_divX (a := 4) (by decide) (by simp; omega) (by decide) (by decide)), _, rfl, AO.none ⟨_, rfl, _, rfl, AA.nil ⟨_, _, rfl, ?_⟩⟩⟩)))))))
  rw [e2, cut_to, cut_from, ← List.map_take, ← List.map_drop]
  have hC : ∀ r ∈ U.take (n / 2), r.length = n ∧ RX.BdN 1 r := fun r hr => hUr r (List.mem_of_mem_take hr)
  have hA : ∀ r ∈ U.drop (n / 2), r.length = n ∧ RX.BdN 1 r := fun r hr => hUr r (List.mem_of_mem_drop hr)
  have lC : (U.take (n / 2)).length ≤ 7 := by simp; omega
  have lA : (U.drop (n / 2)).length ≤ 7 := by simp; omega
  generalize U.take (n / 2) = Co at *
  generalize U.drop (n / 2) = Al at *
  show Do S _ _ (stP j1 n none (some (dRs U)) (some (dRs Co)) (some (dRs Al)) none) _
  refine Do.cons (DoS.set 2 scSqP.nd (AE.call C2 (hr.mono (by decide)) rfl (AA.own 0 rfl (AA.cons (AE.bin op_add (AE.bi call_len_seq ml PySem.boot_len (AA.cons (AE.var 5 rfl (AA.nil ⟨[dRs Al], _, rfl, (pc_len rfl).n, AE.int ⟨_, p2_iii, ?_⟩⟩)))))))))
  have e3 : (((Al.map dR).length : Nat) : Int) + 1 = ((Al.length + 1 : Nat) : Int) := by rw [List.length_map]; omega
  rw [e3]
  refine AA.nil ⟨OkA.one (i := 0) rfl rfl rfl, j1, m + n, ((Al.length + 1 : Nat) : Int), hj1, by omega, by omega, by omega, rfl, fun j2 v hj2 v0 v1 => ⟨_, rfl, ?_⟩⟩
  obtain ⟨q, rfl⟩ : ∃ q : Nat, v = (q : Int) := ⟨v.toNat, by omega⟩
  show Do S _ _ (stP j2 n (some (.int q)) (some (dRs U)) (some (dRs Co)) (some (dRs Al)) none) _
  obtain ⟨u0, tl, eU⟩ : ∃ u0 tl, U = u0 :: tl := by
    cases U with
    | nil => simp at hUl; omega
    | cons x t => exact ⟨x, t, rfl⟩
  have hu0 := hUr u0 (by rw [eU]; simp)
  have hM : ∀ r ∈ Co.drop 1 ++ Al.take q, r.length = n ∧ RX.BdN 1 r := fun r hr => (List.mem_append.mp hr).elim (fun h => hC r (List.mem_of_mem_drop h)) fun h => hA r (List.mem_of_mem_take h)
  have lM : (Co.drop 1 ++ Al.take q).length ≤ 14 := by rw [List.length_append, List.length_drop, List.length_take]; omega
  refine Do.cons (DoS.setLcL [("row", 8)] 6 rfl scSqP.nd rfl (blkOk_by (N := nSqP) (sc := defScope sSqP) (by decide +kernel)) (AF.imm (AF.bin op_cat (AF.imm (AF.slice (AE.var 4 rfl (AO.some (AE.int ⟨1, rfl, AO.none ⟨_, rfl, _, rfl, AF.imm (AF.slice (AE.var 5 rfl (AO.none (AO.some (AE.var 2 rfl ⟨q, rfl, _, rfl, _, rfl, _, p2f_cat (xs := AX.cutD (Co.map dR) (some ((1 : Nat) : Int)) none) (ys := AX.cutD (Al.map dR) none (some (q : Int))) ?_, _, rfl, ?_⟩)))))⟩⟩))))))))
  · rw [cut_to, cut_from]; simp; omega
  rw [show AX.cutD (Co.map dR) (some ((1 : Nat) : Int)) none = (Co.drop 1).map dR by rw [cut_from, List.map_drop], cut_to, ← List.map_take, ← List.map_append]
  generalize Co.drop 1 ++ Al.take q = Mx at *
  refine ⟨_, rfl, Comp.to [8] ((Mx.map fun r => plus3 n r u0).map dR) (by decide) (by simp) (by simp; omega) (noOwn rfl) ?_ ?_⟩
  · intro i x y hx hy s0 H0 Cc cl fp
    obtain ⟨r, hrr, rfl⟩ := map_get hx
    have hrm := hM r (List.mem_of_getElem? hrr)
    have ey : y = dR (plus3 n r u0) := by rw [List.map_map, List.getElem?_map, hrr] at hy; exact (Option.some.inj hy).symm
    refine AG.name 8 scSqP.nd fun s0 H0 C0 cl fp => ATs.nil ⟨rfl, fun s0 H0 C0 cl fp => ?_⟩
    refine AE.bt call_tuple_of mt (by decide +kernel) (AA.cons (AF.imm (AF.lcR [("at", 7)] rfl scSqP.nd mr (blkOk_by (N := nSqP) (sc := ⟨.function, [(".0", .local), ("row", .cell), ("tuple", .globalImplicit), ("range", .globalImplicit), ("units_now", .cell), ("wide", .cell)], false, false, []⟩) (scope := ⟨.function, [(".0", .local), ("at", .local), ("row", .free), ("units_now", .free)], false, false, []⟩) (own := [("at", 7)]) (by decide +kernel)) (AE.var 1 rfl ⟨n, rfl, by omega, by omega, Comp.to [7] ((plus3 n r u0).map DV.int) (by decide) (by rw [rngD_len]; simp [plus3]) (by rw [rngD_len]; simp; omega) (noOwn rfl) ?_ ?_⟩))))
    · intro p x y hx hy s0 H0 C0 cl fp
      obtain ⟨hp, rfl⟩ := range_get (lo := 0) hx
      have hp : p < n := by simpa using hp
      rw [Int.zero_add]
      have et : y = .int (at_ r p + 3 * at_ u0 p) := by
        unfold plus3 at hy
        rw [List.map_map, List.getElem?_map, List.getElem?_range hp] at hy
        exact (Option.some.inj hy).symm
      have b0 := hu0.2 p
      refine AG.name 7 scSqP.nd fun s0 H0 C0 cl fp => ATs.nil ⟨rfl, fun s0 H0 C0 cl fp => AE.bin op_add (AE.sub ix_tup (AE.var 8 rfl (AE.var 7 rfl ⟨_, p2_ixT (ix_row (by omega)), AE.bin op_mulW (AE.int (AE.sub ix_tup (AE.sub ix_list (AE.var 3 rfl (AE.int ⟨dR u0, p2_ixL (atI_nat (i := 0) (by rw [eU]; rfl)), AE.var 7 rfl ⟨_, p2_ixT (ix_row (by omega)), _, p2_ciii (wide_mul (a := 3) (b := 3) (by decide) (by omega) (by decide) (by decide) (by decide)), _, p2_iii, rfl, ?_⟩⟩)))))⟩)))⟩
      exact et.symm
    · exact ⟨_, rfl, AA.nil ⟨[.lst _], _, rfl, pcn_tuple (.inl rfl), rfl, ey.symm⟩⟩
  refine Do.frz 6 rfl ?_
  show Do S _ _ (stP j2 n (some (.int q)) (some (dRs U)) (some (dRs Co)) (some (dRs Al)) (some (dRs (Mx.map fun r => plus3 n r u0)))) _
  have bd : ∀ r : RX.Row, RX.BdN 1 r → RX.BdN (2 ^ 24) r := fun r h => h.mono (by decide)
  have rA : Rws n (Co ++ Mx.map fun r => plus3 n r u0) := ⟨n1, n7, by simp; omega, fun r hr => by
    rcases List.mem_append.mp hr with h | h
    · exact (hC r h).1
    · obtain ⟨s, _, rfl⟩ := List.mem_map.mp h
      exact plus3_len, fun r hr => by
    rcases List.mem_append.mp hr with h | h
    · exact bd r (hC r h).2
    · obtain ⟨s, hs, rfl⟩ := List.mem_map.mp h
      exact plus3_bd (hM s hs).2 hu0.2⟩
  have rB : Rws n (Co ++ Al.drop q) := ⟨n1, n7, by simp; omega, fun r hr => by
    rcases List.mem_append.mp hr with h | h
    · exact (hC r h).1
    · exact (hA r (List.mem_of_mem_drop h)).1, fun r hr => by
    rcases List.mem_append.mp hr with h | h
    · exact bd r (hC r h).2
    · exact bd r (hA r (List.mem_of_mem_drop h)).2⟩
  refine Do.one (DoS.ret (AE.tup (AA.cons (AF.imm (AF.bin op_cat (AE.var 4 rfl (AE.var 6 rfl ⟨_, p2f_cat (by simp; omega), _, rfl, ?_⟩)))))))
  refine AA.cons (AF.imm (AF.bin op_cat (AE.var 4 rfl (AF.imm (AF.slice (AE.var 5 rfl (AO.some (AE.var 2 rfl ⟨q, rfl, AO.none ⟨_, rfl, _, rfl, _, p2f_cat (ys := AX.cutD (Al.map dR) (some (q : Int)) none) ?_, _, rfl, ?_⟩⟩))))))))
  · rw [cut_from]; simp; omega
  rw [cut_from, ← List.map_drop, ← List.map_append, ← List.map_append]
  exact AA.nil ⟨[dRs _, dRs _], rfl, by simp, fin1 0 rfl rfl (hk j2 _ _ (hj2.mono (by omega)) rA rB (by simp; omega) (by simp; omega))⟩
theorem rws_of {n : Nat} {A : List RX.Row} (h1 : 1 ≤ n) (h7 : n ≤ 7) (h6 : A.length ≤ 6) (h : RowsB n 15000000 A) : Rws n A := ⟨h1, h7, by omega, fun r hr => (h r hr).1, fun r hr => RX.bdN_of fun x hx => Nat.le_trans ((h r hr).2 x hx) (by decide)⟩
theorem Jar.le {m m' : Nat} {j : List DV} (h : Jar m j) (e : m ≤ m') : Jar m' j := h.mono e
abbrev stL (ns : List Int) (j : List DV) (go wi a b c d e : Option DV) : Sto := [some (.imm (.scr ns)), some (.own none (.lst j)), go.map .imm, wi.map .imm, a.map .imm, b.map .imm, c.map .imm, d.map .imm, e.map .imm, none]
def W_led : AW1 := fun avs k => ∃ ns : List Int, ns.length ≤ 100000 ∧ avs = [.imm (.scr ns)] ∧ k [] (.imm (.bl true))
theorem ok_led {f : Addr} {fd : FuncData} (F : L2.Fun S.K "_law_led" "_law_led" sLed f fd) (C0 : Can P w mg base S 1 "_law_pool" ["script"] W_pool) (C1 : Can P w mg base S 1 "_law_take" ["jar", "many"] W_take) (C2 : Can P w mg base S 4 "_law_rw_rows" ["jar", "wide"] W_rows) (C3 : Can P w mg base S 14 "_law_sq_kernels_right" ["jar", "one", "two", "wide"] W_sqkr) (C4 : Can P w mg base S 13 "_law_sq_joined_right" ["jar", "parts_now", "wide"] W_sqj) (C5 : Can P w mg base S 3 "_law_sq_planted" ["jar", "wide"] W_sqp) (C6 : Can P w mg base S 13 "_law_sq_chain_right" ["jar", "some", "wide"] W_sqch) (mr : mg "range" = none) : FnOk P w S.K mg base CX0 15 f fd ["script"] (spA S 1 W_led) := by
  refine fn_ok F scLed fun cdv A outer s H E hr avs kk hl ⟨ns, hz, ha, hk⟩ => ?_
  subst ha
  refine Do.cons (DoS.setF 1 scLed.nd (AF.call C0 (hr.mono (by decide)) rfl (AA.cons (AE.var 0 rfl (AA.nil ⟨OkA.d rfl rfl, ns, hz, rfl, fun j0 hj0 => ⟨_, rfl, ?_⟩⟩)))))
  refine Do.cons (DoS.forR rfl PassesOwn.never mr (AE.int ⟨8, rfl, by decide, by decide, fun i δ => ∃ (j : List DV) (go wi a b c d e : Option DV), δ = stL ns j go wi a b c d e ∧ Jar (700 * i) j, ⟨j0, none, none, none, none, none, none, none, rfl, hj0⟩, ?_, ?_⟩))
  · rintro i x δ2 hx ⟨j, go, wi, a, b, c, d, e, rfl, hj⟩
    obtain ⟨hi, rfl⟩ := range_get (lo := 0) hx
    have hi : i < 8 := hi
    refine ⟨[2], AG.name 2 scLed.nd ?_⟩
    refine Do.cons (DoS.set 3 scLed.nd (AE.bin op_add (AE.int (AE.call C1 (hr.mono (by decide)) rfl (AA.own 1 rfl (AA.cons (AE.int (AA.nil ⟨OkA.one (i := 1) rfl rfl rfl, j, 700 * i, 6, hj, by unfold cap; omega, by decide, by decide, rfl, fun j1 v hj1 v0 v1 => ⟨_, rfl, _, p2_iii, ?_⟩⟩))))))))
    obtain ⟨n, hn, n1, n7⟩ : ∃ n : Nat, 2 + v = (n : Int) ∧ 1 ≤ n ∧ n ≤ 7 := ⟨(2 + v).toNat, by omega, by omega, by omega⟩
    rw [hn]
    show Do S _ _ (stL ns j1 (some (.int (0 + (i : Int)))) (some (.int (n : Int))) a b c d e) _
    refine Do.cons (DoS.asg (js := [4, 5, 6]) (AF.imm (AF.lcR [("again", 9)] rfl scLed.nd mr (blkOk_by (N := nLed) (sc := defScope sLed) (by decide +kernel)) (AE.int ⟨3, rfl, by decide, by decide, by decide, noOwn (by cases a <;> cases b <;> cases c <;> cases d <;> cases e <;> rfl), fun q δ2 acc => ∃ (j2 : List DV) (Ls : List (List RX.Row)), δ2 = stL ns j2 (some (.int (0 + (i : Int)))) (some (.int (n : Int))) a b c d e ∧ acc = Ls.map dRs ∧ Ls.length = q ∧ Jar (700 * i + 1 + 200 * q) j2 ∧ ∀ X ∈ Ls, Rws n X ∧ X.length ≤ 6, ⟨j1, [], rfl, rfl, rfl, hj1, fun x hx => by simp at hx⟩, ?_, ?_⟩))))
    · rintro q x δ2 acc hx ⟨j2, Ls, rfl, rfl, hq, hj2, hLs⟩
      obtain ⟨hq3, rfl⟩ := range_get (lo := 0) hx
      have hq3 : q < 3 := hq3
      refine ⟨[9], by decide, fun s0 H0 C0 cl fp => AG.name 9 scLed.nd fun s0 H0 C0 cl fp => ATs.nil ?_⟩
      rw [if_pos rfl]
      refine fun s0 H0 C0 cl fp => AE.call C2 (hr.mono (by decide)) rfl (AA.own 1 rfl (AA.cons (AE.var 3 rfl (AA.nil ⟨OkA.one (i := 1) rfl rfl rfl, j2, 700 * i + 1 + 200 * q, n, hj2, by unfold cap; omega, n1, by omega, rfl, fun j3 rows hj3 h6 hB => ⟨_, rfl, j3, Ls ++ [rows], rfl, by simp, by simp [hq], hj3.le (by omega), fun X hX => ?_⟩⟩))))
      rcases List.mem_append.mp hX with h | h
      · exact hLs X h
      · rw [List.mem_singleton.mp h]; exact ⟨rws_of n1 n7 h6 hB, h6⟩
    rintro δ2 acc ⟨j2, Ls, rfl, rfl, hq, hj2, hLs⟩
    have hq : Ls.length = 3 := hq
    have hj2 : Jar (700 * i + 601) j2 := hj2
    obtain ⟨L1, L2, L3, rfl⟩ : ∃ X Y Z, Ls = [X, Y, Z] := by
      match Ls, hq with
      | [X, Y, Z], _ => exact ⟨X, Y, Z, rfl⟩
    obtain ⟨r1, z1⟩ := hLs L1 (by simp)
    obtain ⟨r2, z2⟩ := hLs L2 (by simp)
    obtain ⟨r3, z3⟩ := hLs L3 (by simp)
    refine ⟨_, rfl, AG.lst rfl rfl (AGs.cons 4 scLed.nd (AGs.cons 5 scLed.nd (AGs.cons 6 scLed.nd (AGs.nil ?_))))⟩
    show Do S _ _ (stL ns j2 (some (.int (0 + (i : Int)))) (some (.int (n : Int))) (some (dRs L1)) (some (dRs L2)) (some (dRs L3)) d e) _
    refine Do.cons (DoS.ite (AT.w (AW.or (AT.not (AT.val (AE.call C3 hr rfl (AA.own 1 rfl (AA.cons (AE.var 4 rfl (AA.cons (AE.var 5 rfl (AA.cons (AE.var 3 rfl (AA.nil ⟨OkA.one (i := 1) rfl rfl rfl, L1, L2, n, j2, r1, r2, by omega, rfl, _, rfl, true, rfl, ?_⟩))))))))))))))
    rw [if_neg (by decide)]
    refine AW.or1 (AT.not (AT.val (AE.call C4 (hr.mono (by decide)) rfl (AA.own 1 rfl (AA.cons (AE.lst (AA.cons (AE.var 4 rfl (AA.cons (AE.var 5 rfl (AA.cons (AE.var 6 rfl (AA.nil ⟨[dRs L1, dRs L2, dRs L3], rfl, by simp, ?_⟩)))))))))))))
    refine AA.cons (AE.var 3 rfl (AA.nil ⟨OkA.one (i := 1) rfl rfl rfl, L1, L2, L3, n, 700 * i + 601, j2, r1, r2, r3, by omega, by omega, by omega, hj2, by unfold cap; omega, rfl, fun j3 hj3 => ⟨_, rfl, true, rfl, ?_⟩⟩))
    rw [if_neg (by decide)]
    refine Do.nil ?_
    show Do S _ _ (stL ns j3 (some (.int (0 + (i : Int)))) (some (.int (n : Int))) (some (dRs L1)) (some (dRs L2)) (some (dRs L3)) d e) _
    refine Do.cons (DoS.asg (js := [7, 8]) (AE.call C5 (hr.mono (by decide)) rfl (AA.own 1 rfl (AA.cons (AE.var 3 rfl (AA.nil ⟨OkA.one (i := 1) rfl rfl rfl, n, 700 * i + 604, j3, n1, n7, hj3, by unfold cap; omega, rfl, fun j4 A4 B4 hj4 rA rB zA zB => ⟨_, rfl, AG.tup rfl rfl (AGs.cons 7 scLed.nd (AGs.cons 8 scLed.nd (AGs.nil ?_)))⟩⟩))))))
    show Do S _ _ (stL ns j4 (some (.int (0 + (i : Int)))) (some (.int (n : Int))) (some (dRs L1)) (some (dRs L2)) (some (dRs L3)) (some (dRs A4)) (some (dRs B4))) _
    refine Do.one (DoS.ite (AT.w (AW.or (AT.not (AT.val (AE.call C3 hr rfl (AA.own 1 rfl (AA.cons (AE.var 7 rfl (AA.cons (AE.var 8 rfl (AA.cons (AE.var 3 rfl (AA.nil ⟨OkA.one (i := 1) rfl rfl rfl, A4, B4, n, j4, rA, rB, by omega, rfl, _, rfl, true, rfl, ?_⟩))))))))))))))
    rw [if_neg (by decide)]
    refine AW.or1 (AT.not (AT.val (AE.call C6 (hr.mono (by decide)) rfl (AA.own 1 rfl (AA.cons (AE.var 4 rfl (AA.cons (AE.var 3 rfl (AA.nil ⟨OkA.one (i := 1) rfl rfl rfl, L1, n, 700 * i + 612, j4, r1, by omega, hj4, by unfold cap; omega, rfl, fun j5 hj5 => ⟨_, rfl, true, rfl, ?_⟩⟩)))))))))
    rw [if_neg (by decide)]
    exact Do.nil ⟨j5, _, _, _, _, _, _, _, rfl, hj5.le (by omega)⟩
  · rintro δ2 ⟨j, go, wi, a, b, c, d, e, rfl, hj⟩
    exact Do.one (DoS.ret (AE.bl (fin0 rfl hk)))
def W_law : AW1 := fun avs k => ∃ ns : List Int, ns.length ≤ 100000 ∧ avs = [.imm (.scr ns)] ∧ k [] (.imm (.bl true))
theorem ok_law {f c T g : Addr} {fd fdg : FuncData} (F : FunC S.K "law" "law" sLaw f fd c) (TB : LamX.TabB base mg c T) (hmT : (T, lamN "law") ∈ S.T) (hu : ∀ q ∈ S.T, q.1 = T → q.2 = lamN "law")
    (FH : L2.Fun S.K "_law_heard" "_law_heard" sHeard g fdg) (hmg : mg "_law_heard" = some (.ref g)) (hbg : L2.Binds S.K fdg ["deed"] []) (C : Can P w mg base S 15 "_law_led" ["script"] W_led) (C3 : Can P w mg base S 7 "_law_yq_same" ["heard_one", "owed"] (W_same 5)) : FnOk P w S.K mg base CX0 18 f fd ["script"] (spA S 1 W_law) := by
  refine fn_okC F scLaw fun A outer s H E hr avs kk hl ⟨ns, hz, ha, hk⟩ => ?_
  subst ha
  refine Do.one (DoS.ret (AE.call C3 (hr.mono (by decide)) rfl (AA.cons ?_)))
  refine AE.heard (lv := 15) (Hears.of FH hmg hbg scHeard (.inl rfl)) rfl rfl TB rfl hmT hu hr (LamX.lamS_by (sc := defScope sLaw) (by decide +kernel)) rfl (fun q cl pm cv ctv => rfl) fun A' outer' s' H0 f' c' hr' => ?_
  refine AE.call C hr' rfl (AA.cons (AE.var 0 rfl (AA.nil ⟨OkA.d rfl rfl, ns, hz, rfl, _, rfl, ?_⟩)))
  refine AA.cons (AE.tup (AA.cons (AE.str (AA.cons (AE.bl (AA.nil ⟨[.str "told", .bl true], rfl, by simp, ?_⟩))))))
  exact AA.nil ⟨OkA.d rfl rfl, .tup [.str "told", .bl true], (dat_told (dat_bl _)).le (by decide), rfl, _, rfl, fin0 rfl hk⟩
end
end K21
namespace K21
open PySem PySem.Spec PyProof.Rows L2 Evl AX
/-- a def of the text as the top has made it -/
structure DefK (K : PySem.W.Frag) (mg : Str → Option Value) (x : Str) (st : Stmt) (ps : List Str) : Prop where
  ex : ∃ f fd, L2.Fun K x x st f fd ∧ mg x = some (.ref f) ∧ PySem.W.keepIn K (.ref f) = true ∧ L2.Binds K fd ps []
/-- a method, a property, an __init__ of the class C -/
structure DefM (K : PySem.W.Frag) (C : Addr) (m qual : Str) (st : Stmt) (ps : List Str) : Prop where
  ex : ∃ f fd, L2.Fun K m qual st f fd ∧ Meth K C m f ∧ L2.Binds K fd ps []
structure DefP (K : PySem.W.Frag) (C : Addr) (m qual : Str) (st : Stmt) (ps : List Str) : Prop where
  ex : ∃ p f fd, L2.Fun K m qual st f fd ∧ PropOf K C m p f ∧ L2.Binds K fd ps []
structure DefI (K : PySem.W.Frag) (C : Addr) (m qual : Str) (st : Stmt) (ps : List Str) : Prop where
  ex : ∃ f fd, L2.Fun K m qual st f fd ∧ Mk K C f ∧ L2.Binds K fd ps []
/-- a def that makes a lambda: its code object at c -/
structure DefL (K : PySem.W.Frag) (mg : Str → Option Value) (x : Str) (st : Stmt) (ps : List Str) (c : Addr) : Prop where
  ex : ∃ f fd, FunC K x x st f fd c ∧ mg x = some (.ref f) ∧ PySem.W.keepIn K (.ref f) = true ∧ L2.Binds K fd ps [] ∧ ∀ us : List Value, us.length = ps.length → bindArgs fd ⟨us, []⟩ = pure (ps.zip us)
section
variable {P : Program} {w : World} {S : Sig} {mg : Str → Option Value} {base : Heap} {k : Nat} {x : Str} {st : Stmt} {ps : List Str} {W : AW1}
theorem can_of {n : Nat} (D : DefK S.K mg x st ps) (hn : n = ps.length) (h : ∀ {f : Addr} {fd : FuncData}, L2.Fun S.K x x st f fd → FnOk P w S.K mg base CX0 k f fd ps (spA S n W)) : Can P w mg base S k x ps W := by
  subst hn
  obtain ⟨f, fd, F, h1, h2, h3⟩ := D.ex
  exact ⟨f, fd, h F, h1, h2, h3⟩
end
section
variable {K : PySem.W.Frag} {h : Heap} {mg : Str → Option Value} {f : Addr} {od an : Option Addr} {sl : Array (Option Value)} {oc kV dc pm cd ct : Value}

theorem d_is_integer (X : K.In h) (G : h.Ns mainGlobals mg) (a : PySem.W.nsIn K mainGlobals "is_integer" = some (some (.ref f))) (l : K.lookup f = some ⟨oc, od, .func (PySem.W.fnOf "is_integer" "is_integer" (defArgs (topS 6)) (defBody (topS 6)) (defScope (topS 6)) .none kV dc pm an cd ct), sl⟩) (cc : PySem.W.codeIn K cd "is_integer" = true) (kp : PySem.W.keepIn K (.ref f) = true) : DefK K mg "is_integer" (topS 6) ["value"] := by
  have F := fun_mk (st := topS 6) l cc kp
  exact ⟨f, _, F, PySem.W.mg_of X G a, kp, F.binds (ps := ["value"]) fun _ _ _ _ _ _ us hl => match us, hl with | [_], _ => rfl⟩
theorem d_is_row (X : K.In h) (G : h.Ns mainGlobals mg) (a : PySem.W.nsIn K mainGlobals "is_row" = some (some (.ref f))) (l : K.lookup f = some ⟨oc, od, .func (PySem.W.fnOf "is_row" "is_row" (defArgs (topS 7)) (defBody (topS 7)) (defScope (topS 7)) .none kV dc pm an cd ct), sl⟩) (cc : PySem.W.codeIn K cd "is_row" = true) (kp : PySem.W.keepIn K (.ref f) = true) : DefK K mg "is_row" (topS 7) ["value", "width"] := by
  have F := fun_mk (st := topS 7) l cc kp
  exact ⟨f, _, F, PySem.W.mg_of X G a, kp, F.binds (ps := ["value", "width"]) fun _ _ _ _ _ _ us hl => match us, hl with | [_, _], _ => rfl⟩
theorem d_common_factor (X : K.In h) (G : h.Ns mainGlobals mg) (a : PySem.W.nsIn K mainGlobals "common_factor" = some (some (.ref f))) (l : K.lookup f = some ⟨oc, od, .func (PySem.W.fnOf "common_factor" "common_factor" (defArgs (topS 8)) (defBody (topS 8)) (defScope (topS 8)) .none kV dc pm an cd ct), sl⟩) (cc : PySem.W.codeIn K cd "common_factor" = true) (kp : PySem.W.keepIn K (.ref f) = true) : DefK K mg "common_factor" (topS 8) ["one", "other"] := by
  have F := fun_mk (st := topS 8) l cc kp
  exact ⟨f, _, F, PySem.W.mg_of X G a, kp, F.binds (ps := ["one", "other"]) fun _ _ _ _ _ _ us hl => match us, hl with | [_, _], _ => rfl⟩
theorem d_primitive (X : K.In h) (G : h.Ns mainGlobals mg) (a : PySem.W.nsIn K mainGlobals "primitive" = some (some (.ref f))) (l : K.lookup f = some ⟨oc, od, .func (PySem.W.fnOf "primitive" "primitive" (defArgs (topS 9)) (defBody (topS 9)) (defScope (topS 9)) .none kV dc pm an cd ct), sl⟩) (cc : PySem.W.codeIn K cd "primitive" = true) (kp : PySem.W.keepIn K (.ref f) = true) : DefK K mg "primitive" (topS 9) ["row"] := by
  have F := fun_mk (st := topS 9) l cc kp
  exact ⟨f, _, F, PySem.W.mg_of X G a, kp, F.binds (ps := ["row"]) fun _ _ _ _ _ _ us hl => match us, hl with | [_], _ => rfl⟩
theorem d_lead (X : K.In h) (G : h.Ns mainGlobals mg) (a : PySem.W.nsIn K mainGlobals "lead" = some (some (.ref f))) (l : K.lookup f = some ⟨oc, od, .func (PySem.W.fnOf "lead" "lead" (defArgs (topS 10)) (defBody (topS 10)) (defScope (topS 10)) .none kV dc pm an cd ct), sl⟩) (cc : PySem.W.codeIn K cd "lead" = true) (kp : PySem.W.keepIn K (.ref f) = true) : DefK K mg "lead" (topS 10) ["row"] := by
  have F := fun_mk (st := topS 10) l cc kp
  exact ⟨f, _, F, PySem.W.mg_of X G a, kp, F.binds (ps := ["row"]) fun _ _ _ _ _ _ us hl => match us, hl with | [_], _ => rfl⟩
theorem d_without (X : K.In h) (G : h.Ns mainGlobals mg) (a : PySem.W.nsIn K mainGlobals "without" = some (some (.ref f))) (l : K.lookup f = some ⟨oc, od, .func (PySem.W.fnOf "without" "without" (defArgs (topS 11)) (defBody (topS 11)) (defScope (topS 11)) .none kV dc pm an cd ct), sl⟩) (cc : PySem.W.codeIn K cd "without" = true) (kp : PySem.W.keepIn K (.ref f) = true) : DefK K mg "without" (topS 11) ["row", "other"] := by
  have F := fun_mk (st := topS 11) l cc kp
  exact ⟨f, _, F, PySem.W.mg_of X G a, kp, F.binds (ps := ["row", "other"]) fun _ _ _ _ _ _ us hl => match us, hl with | [_, _], _ => rfl⟩
theorem d_reduced_by (X : K.In h) (G : h.Ns mainGlobals mg) (a : PySem.W.nsIn K mainGlobals "reduced_by" = some (some (.ref f))) (l : K.lookup f = some ⟨oc, od, .func (PySem.W.fnOf "reduced_by" "reduced_by" (defArgs (topS 12)) (defBody (topS 12)) (defScope (topS 12)) .none kV dc pm an cd ct), sl⟩) (cc : PySem.W.codeIn K cd "reduced_by" = true) (kp : PySem.W.keepIn K (.ref f) = true) : DefK K mg "reduced_by" (topS 12) ["rows", "row"] := by
  have F := fun_mk (st := topS 12) l cc kp
  exact ⟨f, _, F, PySem.W.mg_of X G a, kp, F.binds (ps := ["rows", "row"]) fun _ _ _ _ _ _ us hl => match us, hl with | [_, _], _ => rfl⟩
theorem d_added (X : K.In h) (G : h.Ns mainGlobals mg) (a : PySem.W.nsIn K mainGlobals "added" = some (some (.ref f))) (l : K.lookup f = some ⟨oc, od, .func (PySem.W.fnOf "added" "added" (defArgs (topS 13)) (defBody (topS 13)) (defScope (topS 13)) .none kV dc pm an cd ct), sl⟩) (cc : PySem.W.codeIn K cd "added" = true) (kp : PySem.W.keepIn K (.ref f) = true) : DefK K mg "added" (topS 13) ["rows", "row"] := by
  have F := fun_mk (st := topS 13) l cc kp
  exact ⟨f, _, F, PySem.W.mg_of X G a, kp, F.binds (ps := ["rows", "row"]) fun _ _ _ _ _ _ us hl => match us, hl with | [_, _], _ => rfl⟩
theorem d_reduced (X : K.In h) (G : h.Ns mainGlobals mg) (a : PySem.W.nsIn K mainGlobals "reduced" = some (some (.ref f))) (l : K.lookup f = some ⟨oc, od, .func (PySem.W.fnOf "reduced" "reduced" (defArgs (topS 14)) (defBody (topS 14)) (defScope (topS 14)) .none kV dc pm an cd ct), sl⟩) (cc : PySem.W.codeIn K cd "reduced" = true) (kp : PySem.W.keepIn K (.ref f) = true) : DefK K mg "reduced" (topS 14) ["rows", "width"] := by
  have F := fun_mk (st := topS 14) l cc kp
  exact ⟨f, _, F, PySem.W.mg_of X G a, kp, F.binds (ps := ["rows", "width"]) fun _ _ _ _ _ _ us hl => match us, hl with | [_, _], _ => rfl⟩
theorem d_kernel (X : K.In h) (G : h.Ns mainGlobals mg) (a : PySem.W.nsIn K mainGlobals "kernel" = some (some (.ref f))) (l : K.lookup f = some ⟨oc, od, .func (PySem.W.fnOf "kernel" "kernel" (defArgs (topS 15)) (defBody (topS 15)) (defScope (topS 15)) .none kV dc pm an cd ct), sl⟩) (cc : PySem.W.codeIn K cd "kernel" = true) (kp : PySem.W.keepIn K (.ref f) = true) : DefK K mg "kernel" (topS 15) ["rows", "width"] := by
  have F := fun_mk (st := topS 15) l cc kp
  exact ⟨f, _, F, PySem.W.mg_of X G a, kp, F.binds (ps := ["rows", "width"]) fun _ _ _ _ _ _ us hl => match us, hl with | [_, _], _ => rfl⟩
theorem d_iter_rows (X : K.In h) (G : h.Ns mainGlobals mg) (a : PySem.W.nsIn K mainGlobals "iter_rows" = some (some (.ref f))) (l : K.lookup f = some ⟨oc, od, .func (PySem.W.fnOf "iter_rows" "iter_rows" (defArgs (topS 17)) (defBody (topS 17)) (defScope (topS 17)) .none kV dc pm an cd ct), sl⟩) (cc : PySem.W.codeIn K cd "iter_rows" = true) (kp : PySem.W.keepIn K (.ref f) = true) : DefK K mg "iter_rows" (topS 17) ["width", "rows"] := by
  have F := fun_mk (st := topS 17) l cc kp
  exact ⟨f, _, F, PySem.W.mg_of X G a, kp, F.binds (ps := ["width", "rows"]) fun _ _ _ _ _ _ us hl => match us, hl with | [_, _], _ => rfl⟩
theorem d__law_pool (X : K.In h) (G : h.Ns mainGlobals mg) (a : PySem.W.nsIn K mainGlobals "_law_pool" = some (some (.ref f))) (l : K.lookup f = some ⟨oc, od, .func (PySem.W.fnOf "_law_pool" "_law_pool" (defArgs (topS 20)) (defBody (topS 20)) (defScope (topS 20)) .none kV dc pm an cd ct), sl⟩) (cc : PySem.W.codeIn K cd "_law_pool" = true) (kp : PySem.W.keepIn K (.ref f) = true) : DefK K mg "_law_pool" (topS 20) ["script"] := by
  have F := fun_mk (st := topS 20) l cc kp
  exact ⟨f, _, F, PySem.W.mg_of X G a, kp, F.binds (ps := ["script"]) fun _ _ _ _ _ _ us hl => match us, hl with | [_], _ => rfl⟩
theorem d__law_take (X : K.In h) (G : h.Ns mainGlobals mg) (a : PySem.W.nsIn K mainGlobals "_law_take" = some (some (.ref f))) (l : K.lookup f = some ⟨oc, od, .func (PySem.W.fnOf "_law_take" "_law_take" (defArgs (topS 21)) (defBody (topS 21)) (defScope (topS 21)) .none kV dc pm an cd ct), sl⟩) (cc : PySem.W.codeIn K cd "_law_take" = true) (kp : PySem.W.keepIn K (.ref f) = true) : DefK K mg "_law_take" (topS 21) ["jar", "many"] := by
  have F := fun_mk (st := topS 21) l cc kp
  exact ⟨f, _, F, PySem.W.mg_of X G a, kp, F.binds (ps := ["jar", "many"]) fun _ _ _ _ _ _ us hl => match us, hl with | [_, _], _ => rfl⟩
theorem d__law_one (X : K.In h) (G : h.Ns mainGlobals mg) (a : PySem.W.nsIn K mainGlobals "_law_one" = some (some (.ref f))) (l : K.lookup f = some ⟨oc, od, .func (PySem.W.fnOf "_law_one" "_law_one" (defArgs (topS 22)) (defBody (topS 22)) (defScope (topS 22)) .none kV dc pm an cd ct), sl⟩) (cc : PySem.W.codeIn K cd "_law_one" = true) (kp : PySem.W.keepIn K (.ref f) = true) : DefK K mg "_law_one" (topS 22) ["jar", "things"] := by
  have F := fun_mk (st := topS 22) l cc kp
  exact ⟨f, _, F, PySem.W.mg_of X G a, kp, F.binds (ps := ["jar", "things"]) fun _ _ _ _ _ _ us hl => match us, hl with | [_, _], _ => rfl⟩
theorem d__law_mixed (X : K.In h) (G : h.Ns mainGlobals mg) (a : PySem.W.nsIn K mainGlobals "_law_mixed" = some (some (.ref f))) (l : K.lookup f = some ⟨oc, od, .func (PySem.W.fnOf "_law_mixed" "_law_mixed" (defArgs (topS 23)) (defBody (topS 23)) (defScope (topS 23)) .none kV dc pm an cd ct), sl⟩) (cc : PySem.W.codeIn K cd "_law_mixed" = true) (kp : PySem.W.keepIn K (.ref f) = true) : DefK K mg "_law_mixed" (topS 23) ["jar", "things"] := by
  have F := fun_mk (st := topS 23) l cc kp
  exact ⟨f, _, F, PySem.W.mg_of X G a, kp, F.binds (ps := ["jar", "things"]) fun _ _ _ _ _ _ us hl => match us, hl with | [_, _], _ => rfl⟩
theorem d__law_yq_is_whole (X : K.In h) (G : h.Ns mainGlobals mg) (a : PySem.W.nsIn K mainGlobals "_law_yq_is_whole" = some (some (.ref f))) (l : K.lookup f = some ⟨oc, od, .func (PySem.W.fnOf "_law_yq_is_whole" "_law_yq_is_whole" (defArgs (topS 24)) (defBody (topS 24)) (defScope (topS 24)) .none kV dc pm an cd ct), sl⟩) (cc : PySem.W.codeIn K cd "_law_yq_is_whole" = true) (kp : PySem.W.keepIn K (.ref f) = true) : DefK K mg "_law_yq_is_whole" (topS 24) ["thing"] := by
  have F := fun_mk (st := topS 24) l cc kp
  exact ⟨f, _, F, PySem.W.mg_of X G a, kp, F.binds (ps := ["thing"]) fun _ _ _ _ _ _ us hl => match us, hl with | [_], _ => rfl⟩
theorem d__law_yq_same (X : K.In h) (G : h.Ns mainGlobals mg) (a : PySem.W.nsIn K mainGlobals "_law_yq_same" = some (some (.ref f))) (l : K.lookup f = some ⟨oc, od, .func (PySem.W.fnOf "_law_yq_same" "_law_yq_same" (defArgs (topS 25)) (defBody (topS 25)) (defScope (topS 25)) .none kV dc pm an cd ct), sl⟩) (cc : PySem.W.codeIn K cd "_law_yq_same" = true) (kp : PySem.W.keepIn K (.ref f) = true) : DefK K mg "_law_yq_same" (topS 25) ["heard_one", "owed"] := by
  have F := fun_mk (st := topS 25) l cc kp
  exact ⟨f, _, F, PySem.W.mg_of X G a, kp, F.binds (ps := ["heard_one", "owed"]) fun _ _ _ _ _ _ us hl => match us, hl with | [_, _], _ => rfl⟩
theorem d__law_mw_common (X : K.In h) (G : h.Ns mainGlobals mg) (a : PySem.W.nsIn K mainGlobals "_law_mw_common" = some (some (.ref f))) (l : K.lookup f = some ⟨oc, od, .func (PySem.W.fnOf "_law_mw_common" "_law_mw_common" (defArgs (topS 26)) (defBody (topS 26)) (defScope (topS 26)) .none kV dc pm an cd ct), sl⟩) (cc : PySem.W.codeIn K cd "_law_mw_common" = true) (kp : PySem.W.keepIn K (.ref f) = true) : DefK K mg "_law_mw_common" (topS 26) ["one", "other"] := by
  have F := fun_mk (st := topS 26) l cc kp
  exact ⟨f, _, F, PySem.W.mg_of X G a, kp, F.binds (ps := ["one", "other"]) fun _ _ _ _ _ _ us hl => match us, hl with | [_, _], _ => rfl⟩
theorem d__law_mw_primitive (X : K.In h) (G : h.Ns mainGlobals mg) (a : PySem.W.nsIn K mainGlobals "_law_mw_primitive" = some (some (.ref f))) (l : K.lookup f = some ⟨oc, od, .func (PySem.W.fnOf "_law_mw_primitive" "_law_mw_primitive" (defArgs (topS 27)) (defBody (topS 27)) (defScope (topS 27)) .none kV dc pm an cd ct), sl⟩) (cc : PySem.W.codeIn K cd "_law_mw_primitive" = true) (kp : PySem.W.keepIn K (.ref f) = true) : DefK K mg "_law_mw_primitive" (topS 27) ["row"] := by
  have F := fun_mk (st := topS 27) l cc kp
  exact ⟨f, _, F, PySem.W.mg_of X G a, kp, F.binds (ps := ["row"]) fun _ _ _ _ _ _ us hl => match us, hl with | [_], _ => rfl⟩
theorem d__law_mw_without (X : K.In h) (G : h.Ns mainGlobals mg) (a : PySem.W.nsIn K mainGlobals "_law_mw_without" = some (some (.ref f))) (l : K.lookup f = some ⟨oc, od, .func (PySem.W.fnOf "_law_mw_without" "_law_mw_without" (defArgs (topS 28)) (defBody (topS 28)) (defScope (topS 28)) .none kV dc pm an cd ct), sl⟩) (cc : PySem.W.codeIn K cd "_law_mw_without" = true) (kp : PySem.W.keepIn K (.ref f) = true) : DefK K mg "_law_mw_without" (topS 28) ["row", "lead_v", "other"] := by
  have F := fun_mk (st := topS 28) l cc kp
  exact ⟨f, _, F, PySem.W.mg_of X G a, kp, F.binds (ps := ["row", "lead_v", "other"]) fun _ _ _ _ _ _ us hl => match us, hl with | [_, _, _], _ => rfl⟩
theorem d__law_mw_taken (X : K.In h) (G : h.Ns mainGlobals mg) (a : PySem.W.nsIn K mainGlobals "_law_mw_taken" = some (some (.ref f))) (l : K.lookup f = some ⟨oc, od, .func (PySem.W.fnOf "_law_mw_taken" "_law_mw_taken" (defArgs (topS 29)) (defBody (topS 29)) (defScope (topS 29)) .none kV dc pm an cd ct), sl⟩) (cc : PySem.W.codeIn K cd "_law_mw_taken" = true) (kp : PySem.W.keepIn K (.ref f) = true) : DefK K mg "_law_mw_taken" (topS 29) ["found", "row"] := by
  have F := fun_mk (st := topS 29) l cc kp
  exact ⟨f, _, F, PySem.W.mg_of X G a, kp, F.binds (ps := ["found", "row"]) fun _ _ _ _ _ _ us hl => match us, hl with | [_, _], _ => rfl⟩
theorem d__law_mw_reduced (X : K.In h) (G : h.Ns mainGlobals mg) (a : PySem.W.nsIn K mainGlobals "_law_mw_reduced" = some (some (.ref f))) (l : K.lookup f = some ⟨oc, od, .func (PySem.W.fnOf "_law_mw_reduced" "_law_mw_reduced" (defArgs (topS 30)) (defBody (topS 30)) (defScope (topS 30)) .none kV dc pm an cd ct), sl⟩) (cc : PySem.W.codeIn K cd "_law_mw_reduced" = true) (kp : PySem.W.keepIn K (.ref f) = true) : DefK K mg "_law_mw_reduced" (topS 30) ["some"] := by
  have F := fun_mk (st := topS 30) l cc kp
  exact ⟨f, _, F, PySem.W.mg_of X G a, kp, F.binds (ps := ["some"]) fun _ _ _ _ _ _ us hl => match us, hl with | [_], _ => rfl⟩
theorem d__law_mw_is_spanned (X : K.In h) (G : h.Ns mainGlobals mg) (a : PySem.W.nsIn K mainGlobals "_law_mw_is_spanned" = some (some (.ref f))) (l : K.lookup f = some ⟨oc, od, .func (PySem.W.fnOf "_law_mw_is_spanned" "_law_mw_is_spanned" (defArgs (topS 31)) (defBody (topS 31)) (defScope (topS 31)) .none kV dc pm an cd ct), sl⟩) (cc : PySem.W.codeIn K cd "_law_mw_is_spanned" = true) (kp : PySem.W.keepIn K (.ref f) = true) : DefK K mg "_law_mw_is_spanned" (topS 31) ["reduced_now", "row"] := by
  have F := fun_mk (st := topS 31) l cc kp
  exact ⟨f, _, F, PySem.W.mg_of X G a, kp, F.binds (ps := ["reduced_now", "row"]) fun _ _ _ _ _ _ us hl => match us, hl with | [_, _], _ => rfl⟩
theorem d__law_heard (X : K.In h) (G : h.Ns mainGlobals mg) (a : PySem.W.nsIn K mainGlobals "_law_heard" = some (some (.ref f))) (l : K.lookup f = some ⟨oc, od, .func (PySem.W.fnOf "_law_heard" "_law_heard" (defArgs (topS 32)) (defBody (topS 32)) (defScope (topS 32)) .none kV dc pm an cd ct), sl⟩) (cc : PySem.W.codeIn K cd "_law_heard" = true) (kp : PySem.W.keepIn K (.ref f) = true) : DefK K mg "_law_heard" (topS 32) ["deed"] := by
  have F := fun_mk (st := topS 32) l cc kp
  exact ⟨f, _, F, PySem.W.mg_of X G a, kp, F.binds (ps := ["deed"]) fun _ _ _ _ _ _ us hl => match us, hl with | [_], _ => rfl⟩
theorem d__law_rw_number (X : K.In h) (G : h.Ns mainGlobals mg) (a : PySem.W.nsIn K mainGlobals "_law_rw_number" = some (some (.ref f))) (l : K.lookup f = some ⟨oc, od, .func (PySem.W.fnOf "_law_rw_number" "_law_rw_number" (defArgs (topS 33)) (defBody (topS 33)) (defScope (topS 33)) .none kV dc pm an cd ct), sl⟩) (cc : PySem.W.codeIn K cd "_law_rw_number" = true) (kp : PySem.W.keepIn K (.ref f) = true) : DefK K mg "_law_rw_number" (topS 33) ["jar"] := by
  have F := fun_mk (st := topS 33) l cc kp
  exact ⟨f, _, F, PySem.W.mg_of X G a, kp, F.binds (ps := ["jar"]) fun _ _ _ _ _ _ us hl => match us, hl with | [_], _ => rfl⟩
theorem d__law_rw_rows (X : K.In h) (G : h.Ns mainGlobals mg) (a : PySem.W.nsIn K mainGlobals "_law_rw_rows" = some (some (.ref f))) (l : K.lookup f = some ⟨oc, od, .func (PySem.W.fnOf "_law_rw_rows" "_law_rw_rows" (defArgs (topS 34)) (defBody (topS 34)) (defScope (topS 34)) .none kV dc pm an cd ct), sl⟩) (cc : PySem.W.codeIn K cd "_law_rw_rows" = true) (kp : PySem.W.keepIn K (.ref f) = true) : DefK K mg "_law_rw_rows" (topS 34) ["jar", "wide"] := by
  have F := fun_mk (st := topS 34) l cc kp
  exact ⟨f, _, F, PySem.W.mg_of X G a, kp, F.binds (ps := ["jar", "wide"]) fun _ _ _ _ _ _ us hl => match us, hl with | [_, _], _ => rfl⟩
theorem d__law_sq_kernel {c : Addr} (X : K.In h) (G : h.Ns mainGlobals mg) (a : PySem.W.nsIn K mainGlobals "_law_sq_kernel" = some (some (.ref f))) (l : K.lookup f = some ⟨oc, od, .func (PySem.W.fnOf "_law_sq_kernel" "_law_sq_kernel" (defArgs (topS 35)) (defBody (topS 35)) (defScope (topS 35)) .none kV dc pm an (.ref c) ct), sl⟩) (cc : PySem.W.codeIn K (.ref c) "_law_sq_kernel" = true) (kp : PySem.W.keepIn K (.ref f) = true) : DefL K mg "_law_sq_kernel" (topS 35) ["some", "wide"] c := by
  have F := fun_mk (st := topS 35) l cc kp
  exact ⟨f, _, ⟨⟨_, _, _, _, _, _, _, _, rfl, l, cc⟩, kp⟩, PySem.W.mg_of X G a, kp, F.binds (ps := ["some", "wide"]) fun _ _ _ _ _ _ us hl => match us, hl with | [_, _], _ => rfl, fun us hl => match us, hl with | [_, _], _ => rfl⟩
theorem d__law_sq_space {c : Addr} (X : K.In h) (G : h.Ns mainGlobals mg) (a : PySem.W.nsIn K mainGlobals "_law_sq_space" = some (some (.ref f))) (l : K.lookup f = some ⟨oc, od, .func (PySem.W.fnOf "_law_sq_space" "_law_sq_space" (defArgs (topS 36)) (defBody (topS 36)) (defScope (topS 36)) .none kV dc pm an (.ref c) ct), sl⟩) (cc : PySem.W.codeIn K (.ref c) "_law_sq_space" = true) (kp : PySem.W.keepIn K (.ref f) = true) : DefL K mg "_law_sq_space" (topS 36) ["some", "wide"] c := by
  have F := fun_mk (st := topS 36) l cc kp
  exact ⟨f, _, ⟨⟨_, _, _, _, _, _, _, _, rfl, l, cc⟩, kp⟩, PySem.W.mg_of X G a, kp, F.binds (ps := ["some", "wide"]) fun _ _ _ _ _ _ us hl => match us, hl with | [_, _], _ => rfl, fun us hl => match us, hl with | [_, _], _ => rfl⟩
theorem d__law_sq_rows {c : Addr} (X : K.In h) (G : h.Ns mainGlobals mg) (a : PySem.W.nsIn K mainGlobals "_law_sq_rows" = some (some (.ref f))) (l : K.lookup f = some ⟨oc, od, .func (PySem.W.fnOf "_law_sq_rows" "_law_sq_rows" (defArgs (topS 37)) (defBody (topS 37)) (defScope (topS 37)) .none kV dc pm an (.ref c) ct), sl⟩) (cc : PySem.W.codeIn K (.ref c) "_law_sq_rows" = true) (kp : PySem.W.keepIn K (.ref f) = true) : DefL K mg "_law_sq_rows" (topS 37) ["space"] c := by
  have F := fun_mk (st := topS 37) l cc kp
  exact ⟨f, _, ⟨⟨_, _, _, _, _, _, _, _, rfl, l, cc⟩, kp⟩, PySem.W.mg_of X G a, kp, F.binds (ps := ["space"]) fun _ _ _ _ _ _ us hl => match us, hl with | [_], _ => rfl, fun us hl => match us, hl with | [_], _ => rfl⟩
theorem d__law_sq_due (X : K.In h) (G : h.Ns mainGlobals mg) (a : PySem.W.nsIn K mainGlobals "_law_sq_due" = some (some (.ref f))) (l : K.lookup f = some ⟨oc, od, .func (PySem.W.fnOf "_law_sq_due" "_law_sq_due" (defArgs (topS 38)) (defBody (topS 38)) (defScope (topS 38)) .none kV dc pm an cd ct), sl⟩) (cc : PySem.W.codeIn K cd "_law_sq_due" = true) (kp : PySem.W.keepIn K (.ref f) = true) : DefK K mg "_law_sq_due" (topS 38) ["reduced_now"] := by
  have F := fun_mk (st := topS 38) l cc kp
  exact ⟨f, _, F, PySem.W.mg_of X G a, kp, F.binds (ps := ["reduced_now"]) fun _ _ _ _ _ _ us hl => match us, hl with | [_], _ => rfl⟩
theorem d__law_sq_kernels_right {c : Addr} (X : K.In h) (G : h.Ns mainGlobals mg) (a : PySem.W.nsIn K mainGlobals "_law_sq_kernels_right" = some (some (.ref f))) (l : K.lookup f = some ⟨oc, od, .func (PySem.W.fnOf "_law_sq_kernels_right" "_law_sq_kernels_right" (defArgs (topS 39)) (defBody (topS 39)) (defScope (topS 39)) .none kV dc pm an (.ref c) ct), sl⟩) (cc : PySem.W.codeIn K (.ref c) "_law_sq_kernels_right" = true) (kp : PySem.W.keepIn K (.ref f) = true) : DefL K mg "_law_sq_kernels_right" (topS 39) ["jar", "one", "two", "wide"] c := by
  have F := fun_mk (st := topS 39) l cc kp
  exact ⟨f, _, ⟨⟨_, _, _, _, _, _, _, _, rfl, l, cc⟩, kp⟩, PySem.W.mg_of X G a, kp, F.binds (ps := ["jar", "one", "two", "wide"]) fun _ _ _ _ _ _ us hl => match us, hl with | [_, _, _, _], _ => rfl, fun us hl => match us, hl with | [_, _, _, _], _ => rfl⟩
theorem d__law_sq_back {c : Addr} (X : K.In h) (G : h.Ns mainGlobals mg) (a : PySem.W.nsIn K mainGlobals "_law_sq_back" = some (some (.ref f))) (l : K.lookup f = some ⟨oc, od, .func (PySem.W.fnOf "_law_sq_back" "_law_sq_back" (defArgs (topS 40)) (defBody (topS 40)) (defScope (topS 40)) .none kV dc pm an (.ref c) ct), sl⟩) (cc : PySem.W.codeIn K (.ref c) "_law_sq_back" = true) (kp : PySem.W.keepIn K (.ref f) = true) : DefL K mg "_law_sq_back" (topS 40) ["space", "wide"] c := by
  have F := fun_mk (st := topS 40) l cc kp
  exact ⟨f, _, ⟨⟨_, _, _, _, _, _, _, _, rfl, l, cc⟩, kp⟩, PySem.W.mg_of X G a, kp, F.binds (ps := ["space", "wide"]) fun _ _ _ _ _ _ us hl => match us, hl with | [_, _], _ => rfl, fun us hl => match us, hl with | [_, _], _ => rfl⟩
theorem d__law_sq_common {c : Addr} (X : K.In h) (G : h.Ns mainGlobals mg) (a : PySem.W.nsIn K mainGlobals "_law_sq_common" = some (some (.ref f))) (l : K.lookup f = some ⟨oc, od, .func (PySem.W.fnOf "_law_sq_common" "_law_sq_common" (defArgs (topS 41)) (defBody (topS 41)) (defScope (topS 41)) .none kV dc pm an (.ref c) ct), sl⟩) (cc : PySem.W.codeIn K (.ref c) "_law_sq_common" = true) (kp : PySem.W.keepIn K (.ref f) = true) : DefL K mg "_law_sq_common" (topS 41) ["first", "second", "wide"] c := by
  have F := fun_mk (st := topS 41) l cc kp
  exact ⟨f, _, ⟨⟨_, _, _, _, _, _, _, _, rfl, l, cc⟩, kp⟩, PySem.W.mg_of X G a, kp, F.binds (ps := ["first", "second", "wide"]) fun _ _ _ _ _ _ us hl => match us, hl with | [_, _, _], _ => rfl, fun us hl => match us, hl with | [_, _, _], _ => rfl⟩
theorem d__law_sq_joined_right {c : Addr} (X : K.In h) (G : h.Ns mainGlobals mg) (a : PySem.W.nsIn K mainGlobals "_law_sq_joined_right" = some (some (.ref f))) (l : K.lookup f = some ⟨oc, od, .func (PySem.W.fnOf "_law_sq_joined_right" "_law_sq_joined_right" (defArgs (topS 42)) (defBody (topS 42)) (defScope (topS 42)) .none kV dc pm an (.ref c) ct), sl⟩) (cc : PySem.W.codeIn K (.ref c) "_law_sq_joined_right" = true) (kp : PySem.W.keepIn K (.ref f) = true) : DefL K mg "_law_sq_joined_right" (topS 42) ["jar", "parts_now", "wide"] c := by
  have F := fun_mk (st := topS 42) l cc kp
  exact ⟨f, _, ⟨⟨_, _, _, _, _, _, _, _, rfl, l, cc⟩, kp⟩, PySem.W.mg_of X G a, kp, F.binds (ps := ["jar", "parts_now", "wide"]) fun _ _ _ _ _ _ us hl => match us, hl with | [_, _, _], _ => rfl, fun us hl => match us, hl with | [_, _, _], _ => rfl⟩
theorem d__law_sq_chain_right {c : Addr} (X : K.In h) (G : h.Ns mainGlobals mg) (a : PySem.W.nsIn K mainGlobals "_law_sq_chain_right" = some (some (.ref f))) (l : K.lookup f = some ⟨oc, od, .func (PySem.W.fnOf "_law_sq_chain_right" "_law_sq_chain_right" (defArgs (topS 43)) (defBody (topS 43)) (defScope (topS 43)) .none kV dc pm an (.ref c) ct), sl⟩) (cc : PySem.W.codeIn K (.ref c) "_law_sq_chain_right" = true) (kp : PySem.W.keepIn K (.ref f) = true) : DefL K mg "_law_sq_chain_right" (topS 43) ["jar", "some", "wide"] c := by
  have F := fun_mk (st := topS 43) l cc kp
  exact ⟨f, _, ⟨⟨_, _, _, _, _, _, _, _, rfl, l, cc⟩, kp⟩, PySem.W.mg_of X G a, kp, F.binds (ps := ["jar", "some", "wide"]) fun _ _ _ _ _ _ us hl => match us, hl with | [_, _, _], _ => rfl, fun us hl => match us, hl with | [_, _, _], _ => rfl⟩
theorem d__law_sq_planted (X : K.In h) (G : h.Ns mainGlobals mg) (a : PySem.W.nsIn K mainGlobals "_law_sq_planted" = some (some (.ref f))) (l : K.lookup f = some ⟨oc, od, .func (PySem.W.fnOf "_law_sq_planted" "_law_sq_planted" (defArgs (topS 44)) (defBody (topS 44)) (defScope (topS 44)) .none kV dc pm an cd ct), sl⟩) (cc : PySem.W.codeIn K cd "_law_sq_planted" = true) (kp : PySem.W.keepIn K (.ref f) = true) : DefK K mg "_law_sq_planted" (topS 44) ["jar", "wide"] := by
  have F := fun_mk (st := topS 44) l cc kp
  exact ⟨f, _, F, PySem.W.mg_of X G a, kp, F.binds (ps := ["jar", "wide"]) fun _ _ _ _ _ _ us hl => match us, hl with | [_, _], _ => rfl⟩
theorem d__law_led (X : K.In h) (G : h.Ns mainGlobals mg) (a : PySem.W.nsIn K mainGlobals "_law_led" = some (some (.ref f))) (l : K.lookup f = some ⟨oc, od, .func (PySem.W.fnOf "_law_led" "_law_led" (defArgs (topS 45)) (defBody (topS 45)) (defScope (topS 45)) .none kV dc pm an cd ct), sl⟩) (cc : PySem.W.codeIn K cd "_law_led" = true) (kp : PySem.W.keepIn K (.ref f) = true) : DefK K mg "_law_led" (topS 45) ["script"] := by
  have F := fun_mk (st := topS 45) l cc kp
  exact ⟨f, _, F, PySem.W.mg_of X G a, kp, F.binds (ps := ["script"]) fun _ _ _ _ _ _ us hl => match us, hl with | [_], _ => rfl⟩
theorem d_law {c : Addr} (X : K.In h) (G : h.Ns mainGlobals mg) (a : PySem.W.nsIn K mainGlobals "law" = some (some (.ref f))) (l : K.lookup f = some ⟨oc, od, .func (PySem.W.fnOf "law" "law" (defArgs (topS 46)) (defBody (topS 46)) (defScope (topS 46)) .none kV dc pm an (.ref c) ct), sl⟩) (cc : PySem.W.codeIn K (.ref c) "law" = true) (kp : PySem.W.keepIn K (.ref f) = true) : DefL K mg "law" (topS 46) ["script"] c := by
  have F := fun_mk (st := topS 46) l cc kp
  exact ⟨f, _, ⟨⟨_, _, _, _, _, _, _, _, rfl, l, cc⟩, kp⟩, PySem.W.mg_of X G a, kp, F.binds (ps := ["script"]) fun _ _ _ _ _ _ us hl => match us, hl with | [_], _ => rfl, fun us hl => match us, hl with | [_], _ => rfl⟩
theorem dm_Space___init__ {C : Addr} (mk : PySem.W.makesIn K C = true) (a : PySem.W.findIn K (.ref C) "__init__" = some (some (.ref f))) (i : PySem.W.isFn K (.ref f) = true) (kc : PySem.W.keepIn K (.ref C) = true) (l : K.lookup f = some ⟨oc, od, .func (PySem.W.fnOf "__init__" "Space.__init__" (defArgs (inClass (topS 18) 0)) (defBody (inClass (topS 18) 0)) (defScope (inClass (topS 18) 0)) .none kV dc pm an cd ct), sl⟩) (cc : PySem.W.codeIn K cd "Space.__init__" = true) (kp : PySem.W.keepIn K (.ref f) = true) : DefI K C "__init__" "Space.__init__" (inClass (topS 18) 0) ["self", "width", "rows"] := by
  have F := fun_mk (st := (inClass (topS 18) 0)) l cc kp
  exact ⟨f, _, F, ⟨mk, a, i, kc⟩, F.binds (ps := ["self", "width", "rows"]) fun _ _ _ _ _ _ us hl => match us, hl with | [_, _, _], _ => rfl⟩
theorem dm_Space_rows {C p : Addr} {rest : List Value} (a : PySem.W.findIn K (.ref C) "rows" = some (some (.ref p))) (g : PySem.W.specialIn K (.ref p) "__get__" = some (some (.builtin "property.__get__"))) (tk : PySem.W.takesIn K (.ref p) = some true) (r : PySem.W.recIn K p "property" = some (.ref f :: rest)) (l : K.lookup f = some ⟨oc, od, .func (PySem.W.fnOf "rows" "Space.rows" (defArgs (inClass (topS 18) 2)) (defBody (inClass (topS 18) 2)) (defScope (inClass (topS 18) 2)) .none kV dc pm an cd ct), sl⟩) (cc : PySem.W.codeIn K cd "Space.rows" = true) (kp : PySem.W.keepIn K (.ref f) = true) : DefP K C "rows" "Space.rows" (inClass (topS 18) 2) ["self"] := by
  have F := fun_mk (st := (inClass (topS 18) 2)) l cc kp
  exact ⟨p, f, _, F, ⟨a, g, tk, _, r⟩, F.binds (ps := ["self"]) fun _ _ _ _ _ _ us hl => match us, hl with | [_], _ => rfl⟩
theorem dm_Space___len__ {C : Addr} (a : PySem.W.findIn K (.ref C) "__len__" = some (some (.ref f))) (i : PySem.W.isFn K (.ref f) = true) (l : K.lookup f = some ⟨oc, od, .func (PySem.W.fnOf "__len__" "Space.__len__" (defArgs (inClass (topS 18) 3)) (defBody (inClass (topS 18) 3)) (defScope (inClass (topS 18) 3)) .none kV dc pm an cd ct), sl⟩) (cc : PySem.W.codeIn K cd "Space.__len__" = true) (kp : PySem.W.keepIn K (.ref f) = true) : DefM K C "__len__" "Space.__len__" (inClass (topS 18) 3) ["self"] := by
  have F := fun_mk (st := (inClass (topS 18) 3)) l cc kp
  exact ⟨f, _, F, ⟨a, i, kp⟩, F.binds (ps := ["self"]) fun _ _ _ _ _ _ us hl => match us, hl with | [_], _ => rfl⟩
theorem dm_Space___contains__ {C : Addr} (a : PySem.W.findIn K (.ref C) "__contains__" = some (some (.ref f))) (i : PySem.W.isFn K (.ref f) = true) (l : K.lookup f = some ⟨oc, od, .func (PySem.W.fnOf "__contains__" "Space.__contains__" (defArgs (inClass (topS 18) 5)) (defBody (inClass (topS 18) 5)) (defScope (inClass (topS 18) 5)) .none kV dc pm an cd ct), sl⟩) (cc : PySem.W.codeIn K cd "Space.__contains__" = true) (kp : PySem.W.keepIn K (.ref f) = true) : DefM K C "__contains__" "Space.__contains__" (inClass (topS 18) 5) ["self", "value"] := by
  have F := fun_mk (st := (inClass (topS 18) 5)) l cc kp
  exact ⟨f, _, F, ⟨a, i, kp⟩, F.binds (ps := ["self", "value"]) fun _ _ _ _ _ _ us hl => match us, hl with | [_, _], _ => rfl⟩
theorem dm_Space___eq__ {C : Addr} (a : PySem.W.findIn K (.ref C) "__eq__" = some (some (.ref f))) (i : PySem.W.isFn K (.ref f) = true) (l : K.lookup f = some ⟨oc, od, .func (PySem.W.fnOf "__eq__" "Space.__eq__" (defArgs (inClass (topS 18) 6)) (defBody (inClass (topS 18) 6)) (defScope (inClass (topS 18) 6)) .none kV dc pm an cd ct), sl⟩) (cc : PySem.W.codeIn K cd "Space.__eq__" = true) (kp : PySem.W.keepIn K (.ref f) = true) : DefM K C "__eq__" "Space.__eq__" (inClass (topS 18) 6) ["self", "other"] := by
  have F := fun_mk (st := (inClass (topS 18) 6)) l cc kp
  exact ⟨f, _, F, ⟨a, i, kp⟩, F.binds (ps := ["self", "other"]) fun _ _ _ _ _ _ us hl => match us, hl with | [_, _], _ => rfl⟩
theorem dm_Space_check {C : Addr} (a : PySem.W.findIn K (.ref C) "check" = some (some (.ref f))) (i : PySem.W.isFn K (.ref f) = true) (l : K.lookup f = some ⟨oc, od, .func (PySem.W.fnOf "check" "Space.check" (defArgs (inClass (topS 18) 7)) (defBody (inClass (topS 18) 7)) (defScope (inClass (topS 18) 7)) .none kV dc pm an cd ct), sl⟩) (cc : PySem.W.codeIn K cd "Space.check" = true) (kp : PySem.W.keepIn K (.ref f) = true) : DefM K C "check" "Space.check" (inClass (topS 18) 7) ["self", "other"] := by
  have F := fun_mk (st := (inClass (topS 18) 7)) l cc kp
  exact ⟨f, _, F, ⟨a, i, kp⟩, F.binds (ps := ["self", "other"]) fun _ _ _ _ _ _ us hl => match us, hl with | [_, _], _ => rfl⟩
theorem dm_Space___or__ {C : Addr} (a : PySem.W.findIn K (.ref C) "__or__" = some (some (.ref f))) (i : PySem.W.isFn K (.ref f) = true) (l : K.lookup f = some ⟨oc, od, .func (PySem.W.fnOf "__or__" "Space.__or__" (defArgs (inClass (topS 18) 8)) (defBody (inClass (topS 18) 8)) (defScope (inClass (topS 18) 8)) .none kV dc pm an cd ct), sl⟩) (cc : PySem.W.codeIn K cd "Space.__or__" = true) (kp : PySem.W.keepIn K (.ref f) = true) : DefM K C "__or__" "Space.__or__" (inClass (topS 18) 8) ["self", "other"] := by
  have F := fun_mk (st := (inClass (topS 18) 8)) l cc kp
  exact ⟨f, _, F, ⟨a, i, kp⟩, F.binds (ps := ["self", "other"]) fun _ _ _ _ _ _ us hl => match us, hl with | [_, _], _ => rfl⟩
theorem dm_Space_is_within {C : Addr} (a : PySem.W.findIn K (.ref C) "is_within" = some (some (.ref f))) (i : PySem.W.isFn K (.ref f) = true) (l : K.lookup f = some ⟨oc, od, .func (PySem.W.fnOf "is_within" "Space.is_within" (defArgs (inClass (topS 18) 9)) (defBody (inClass (topS 18) 9)) (defScope (inClass (topS 18) 9)) .none kV dc pm an cd ct), sl⟩) (cc : PySem.W.codeIn K cd "Space.is_within" = true) (kp : PySem.W.keepIn K (.ref f) = true) : DefM K C "is_within" "Space.is_within" (inClass (topS 18) 9) ["self", "other"] := by
  have F := fun_mk (st := (inClass (topS 18) 9)) l cc kp
  exact ⟨f, _, F, ⟨a, i, kp⟩, F.binds (ps := ["self", "other"]) fun _ _ _ _ _ _ us hl => match us, hl with | [_, _], _ => rfl⟩
theorem dk_Space {C : Addr} (X : K.In h) (G : h.Ns mainGlobals mg) (a : PySem.W.nsIn K mainGlobals "Space" = some (some (.ref C)))
    (pg : PySem.W.plainGet K C Str.empty = true) (hd : PySem.W.hasDictIn K C = true) (po : PySem.W.plainOver K C = true) (sa : PySem.W.findIn K (.ref C) "__setattr__" = some (some (.builtin "object.__setattr__")))
    (ha : PySem.W.findIn K (.ref C) "__class__" = some (some (.builtin "object.__class__"))) (hn : PySem.W.specialIn K (.builtin "object.__class__") "__get__" = some (some (.builtin "getset_descriptor.__get__"))) (htk : PySem.W.takesIn K (.builtin "object.__class__") = some true) (hm : PySem.W.mroIn K C (.type "object") = some true)
    (n0 : PySem.W.findIn K (.ref C) "length" = some none) (n1 : PySem.W.findIn K (.ref C) "basis" = some none) (sf : PySem.W.selfFirst K C = true) (nf : PySem.W.notFirst K C (.ref C) = true) : ∀ T, SpaceK ⟨K, fun _ => C, fun _ => [("length" : Str), ("basis" : Str)], T⟩ mg :=
  fun T => ⟨rfl, ⟨⟨pg, hd, po, sa⟩, ha, hn, htk, hm⟩, n0, n1, PySem.W.mg_of X G a, sf, nf⟩
end
/-- the heap without its tables -/
def noTab (H : Hp) : Hp := fun b => match H b with
  | some (.tbl _) => none
  | o => o
theorem noTab_some {H : Hp} {b : Addr} {o : HO} (h : noTab H b = some o) : H b = some o := by
  unfold noTab at h
  split at h
  · cases h
  · exact h
theorem noTab_keep {H : Hp} {b : Addr} {o : HO} (h : H b = some o) (n : ∀ ps, o ≠ .tbl ps) : noTab H b = some o := by
  unfold noTab
  rw [h]
  split
  · rename_i ps e; cases e; exact absurd rfl (n ps)
  · rfl
theorem law_sp {S : Sig} {H : Hp} {a : Addr} {ns : List Int} (hl : ns.length ≤ 63) (hT : ∀ p ∈ S.T, H p.1 = some (.tbl #[])) (hS : SqL S.K H a (ns.map V.int)) : spA S 1 W_law [.ref a] H (fun v _ => v = .bl true) fun _ _ _ => False := by
  refine ⟨noTab H, [.imm (.scr ns)], fun _ r => r = .imm (.bl true), fun b o e => noTab_some e, fun b ps e => ?_, fun p hp => ?_, rfl, ?_, trivial, by simp [ownA], ⟨ns, by omega, rfl, rfl⟩, fun v B' H' os r e1 e2 e3 e4 e5 e6 e7 e8 hr hk => ?_⟩
  · have := noTab_some e
    unfold noTab at e
    rw [this] at e
    cases e
  · refine ⟨#[], hT p hp, by simp [TriplesOk], fun pos cv e => ?_⟩
    simp [codeAmong] at e
  · refine .cons (.scr ?_) .nil
    rcases hS with (h | ⟨o, h⟩) | h
    · exact .inl (.inl (noTab_keep h fun ps z => by cases z))
    · exact .inl (.inr ⟨o, noTab_keep h fun ps z => by cases z⟩)
    · exact .inr h
  · subst hk
    cases hr
    rfl
/-- a code object's head, from what lies there -/
def hdOk (vs : Array Value) (c P : Addr) : Bool := (match (vs[11]? : Option Value) with | some (.ref P') => P' == P | _ => false) &&
  (match vs.getD 18 .none with | .str _ _ => true | _ => false) && (match vs.getD 7 .none with | .int _ _ => true | _ => false) &&
  (match vs.getD 9 .none with | .bool _ => true | _ => false) && (match vs.getD 10 .none with | .int _ _ => true | _ => false) && c != P
theorem hd_of {K : PySem.W.Frag} {c P : Addr} {dd : Option Addr} {vs : Array Value} {sl : Array (Option Value)} (l : K.lookup c = some ⟨.type "code", dd, .fields vs, sl⟩) (e : hdOk vs c P = true) : PySem.W.codeHdIn K c P = true := by
  unfold PySem.W.codeHdIn
  rw [l]
  exact e
end K21
namespace K21
open PySem PySem.Spec PyProof.Rows L2 Evl AX
theorem law_fn {P : Program} {w : World} {S : Sig} {mg : Str → Option Value} {base : Heap} {c35 T35 c36 T36 c37 T37 c39 T39 c40 T40 c41 T41 c42 T42 c43 T43 c46 T46 : Addr} {f : Addr} {fd : FuncData}
    (D6 : DefK S.K mg "is_integer" (topS 6) ["value"]) (D7 : DefK S.K mg "is_row" (topS 7) ["value", "width"]) (D8 : DefK S.K mg "common_factor" (topS 8) ["one", "other"]) (D9 : DefK S.K mg "primitive" (topS 9) ["row"]) (D10 : DefK S.K mg "lead" (topS 10) ["row"]) (D11 : DefK S.K mg "without" (topS 11) ["row", "other"]) (D12 : DefK S.K mg "reduced_by" (topS 12) ["rows", "row"]) (D13 : DefK S.K mg "added" (topS 13) ["rows", "row"]) (D14 : DefK S.K mg "reduced" (topS 14) ["rows", "width"]) (D15 : DefK S.K mg "kernel" (topS 15) ["rows", "width"]) (D17 : DefK S.K mg "iter_rows" (topS 17) ["width", "rows"]) (D20 : DefK S.K mg "_law_pool" (topS 20) ["script"]) (D21 : DefK S.K mg "_law_take" (topS 21) ["jar", "many"]) (D22 : DefK S.K mg "_law_one" (topS 22) ["jar", "things"]) (D23 : DefK S.K mg "_law_mixed" (topS 23) ["jar", "things"]) (D24 : DefK S.K mg "_law_yq_is_whole" (topS 24) ["thing"]) (D25 : DefK S.K mg "_law_yq_same" (topS 25) ["heard_one", "owed"]) (D26 : DefK S.K mg "_law_mw_common" (topS 26) ["one", "other"]) (D27 : DefK S.K mg "_law_mw_primitive" (topS 27) ["row"]) (D28 : DefK S.K mg "_law_mw_without" (topS 28) ["row", "lead_v", "other"]) (D29 : DefK S.K mg "_law_mw_taken" (topS 29) ["found", "row"]) (D30 : DefK S.K mg "_law_mw_reduced" (topS 30) ["some"]) (D31 : DefK S.K mg "_law_mw_is_spanned" (topS 31) ["reduced_now", "row"]) (D32 : DefK S.K mg "_law_heard" (topS 32) ["deed"]) (D33 : DefK S.K mg "_law_rw_number" (topS 33) ["jar"]) (D34 : DefK S.K mg "_law_rw_rows" (topS 34) ["jar", "wide"]) (D35 : DefL S.K mg "_law_sq_kernel" (topS 35) ["some", "wide"] c35) (D36 : DefL S.K mg "_law_sq_space" (topS 36) ["some", "wide"] c36) (D37 : DefL S.K mg "_law_sq_rows" (topS 37) ["space"] c37) (D38 : DefK S.K mg "_law_sq_due" (topS 38) ["reduced_now"]) (D39 : DefL S.K mg "_law_sq_kernels_right" (topS 39) ["jar", "one", "two", "wide"] c39) (D40 : DefL S.K mg "_law_sq_back" (topS 40) ["space", "wide"] c40) (D41 : DefL S.K mg "_law_sq_common" (topS 41) ["first", "second", "wide"] c41) (D42 : DefL S.K mg "_law_sq_joined_right" (topS 42) ["jar", "parts_now", "wide"] c42) (D43 : DefL S.K mg "_law_sq_chain_right" (topS 43) ["jar", "some", "wide"] c43) (D44 : DefK S.K mg "_law_sq_planted" (topS 44) ["jar", "wide"]) (D45 : DefK S.K mg "_law_led" (topS 45) ["script"]) (D46 : DefL S.K mg "law" (topS 46) ["script"] c46)
    (MSpace___init__ : DefI S.K (S.cls 0) "__init__" "Space.__init__" (inClass (topS 18) 0) ["self", "width", "rows"]) (MSpace_rows : DefP S.K (S.cls 0) "rows" "Space.rows" (inClass (topS 18) 2) ["self"]) (MSpace___len__ : DefM S.K (S.cls 0) "__len__" "Space.__len__" (inClass (topS 18) 3) ["self"]) (MSpace___contains__ : DefM S.K (S.cls 0) "__contains__" "Space.__contains__" (inClass (topS 18) 5) ["self", "value"]) (MSpace___eq__ : DefM S.K (S.cls 0) "__eq__" "Space.__eq__" (inClass (topS 18) 6) ["self", "other"]) (MSpace_check : DefM S.K (S.cls 0) "check" "Space.check" (inClass (topS 18) 7) ["self", "other"]) (MSpace___or__ : DefM S.K (S.cls 0) "__or__" "Space.__or__" (inClass (topS 18) 8) ["self", "other"]) (MSpace_is_within : DefM S.K (S.cls 0) "is_within" "Space.is_within" (inClass (topS 18) 9) ["self", "other"]) (KSpace : SpaceK S mg)
    (m_abs : mg "abs" = none) (m_all : mg "all" = none) (m_bool : mg "bool" = none) (m_enumerate : mg "enumerate" = none) (m_int : mg "int" = none) (m_isinstance : mg "isinstance" = none) (m_len : mg "len" = none) (m_list : mg "list" = none) (m_max : mg "max" = none) (m_range : mg "range" = none) (m_sorted : mg "sorted" = none) (m_str : mg "str" = none) (m_tuple : mg "tuple" = none) (m_zip : mg "zip" = none)
    (TB35 : LamX.TabB base mg c35 T35) (hm35 : (T35, (("_law_sq_kernel" : Str) ++ ".<locals>.") ++ "<lambda>") ∈ S.T) (hu35 : ∀ q ∈ S.T, q.1 = T35 → q.2 = (("_law_sq_kernel" : Str) ++ ".<locals>.") ++ "<lambda>") (TB36 : LamX.TabB base mg c36 T36) (hm36 : (T36, (("_law_sq_space" : Str) ++ ".<locals>.") ++ "<lambda>") ∈ S.T) (hu36 : ∀ q ∈ S.T, q.1 = T36 → q.2 = (("_law_sq_space" : Str) ++ ".<locals>.") ++ "<lambda>") (TB37 : LamX.TabB base mg c37 T37) (hm37 : (T37, (("_law_sq_rows" : Str) ++ ".<locals>.") ++ "<lambda>") ∈ S.T) (hu37 : ∀ q ∈ S.T, q.1 = T37 → q.2 = (("_law_sq_rows" : Str) ++ ".<locals>.") ++ "<lambda>") (TB39 : LamX.TabB base mg c39 T39) (hm39 : (T39, (("_law_sq_kernels_right" : Str) ++ ".<locals>.") ++ "<lambda>") ∈ S.T) (hu39 : ∀ q ∈ S.T, q.1 = T39 → q.2 = (("_law_sq_kernels_right" : Str) ++ ".<locals>.") ++ "<lambda>") (TB40 : LamX.TabB base mg c40 T40) (hm40 : (T40, (("_law_sq_back" : Str) ++ ".<locals>.") ++ "<lambda>") ∈ S.T) (hu40 : ∀ q ∈ S.T, q.1 = T40 → q.2 = (("_law_sq_back" : Str) ++ ".<locals>.") ++ "<lambda>") (TB41 : LamX.TabB base mg c41 T41) (hm41 : (T41, (("_law_sq_common" : Str) ++ ".<locals>.") ++ "<lambda>") ∈ S.T) (hu41 : ∀ q ∈ S.T, q.1 = T41 → q.2 = (("_law_sq_common" : Str) ++ ".<locals>.") ++ "<lambda>") (TB42 : LamX.TabB base mg c42 T42) (hm42 : (T42, (("_law_sq_joined_right" : Str) ++ ".<locals>.") ++ "<lambda>") ∈ S.T) (hu42 : ∀ q ∈ S.T, q.1 = T42 → q.2 = (("_law_sq_joined_right" : Str) ++ ".<locals>.") ++ "<lambda>") (TB43 : LamX.TabB base mg c43 T43) (hm43 : (T43, (("_law_sq_chain_right" : Str) ++ ".<locals>.") ++ "<lambda>") ∈ S.T) (hu43 : ∀ q ∈ S.T, q.1 = T43 → q.2 = (("_law_sq_chain_right" : Str) ++ ".<locals>.") ++ "<lambda>") (TB46 : LamX.TabB base mg c46 T46) (hm46 : (T46, (("law" : Str) ++ ".<locals>.") ++ "<lambda>") ∈ S.T) (hu46 : ∀ q ∈ S.T, q.1 = T46 → q.2 = (("law" : Str) ++ ".<locals>.") ++ "<lambda>")
    (F46 : FunC S.K "law" "law" (topS 46) f fd c46) : FnOk P w S.K mg base CX0 18 f fd ["script"] (spA S 1 W_law) := by
  obtain ⟨g, fdg, FH, hg, hgk, hgb⟩ := D32.ex
  have C24 : Can P w mg base S 1 "_law_yq_is_whole" ["thing"] W_isint := can_of D24 rfl fun F => ok_whole F m_isinstance m_int m_bool
  have C21 : Can P w mg base S 1 "_law_take" ["jar", "many"] W_take := can_of D21 rfl fun F => ok_take F m_int
  have C20 : Can P w mg base S 1 "_law_pool" ["script"] W_pool := can_of D20 rfl fun F => ok_pool F m_int m_max m_len m_range
  have C22 : Can P w mg base S 2 "_law_one" ["jar", "things"] W_one := can_of D22 rfl fun F => ok_one F C21 m_len
  have C23 : Can P w mg base S 2 "_law_mixed" ["jar", "things"] W_mixed := can_of D23 rfl fun F => ok_mixed F C21 m_len m_list m_range
  have C6 : Can P w mg base S 1 "is_integer" ["value"] W_isint := can_of D6 rfl fun F => ok_isint F m_isinstance m_int m_bool
  have C7 : Can P w mg base S 2 "is_row" ["value", "width"] W_isrow := can_of D7 rfl fun F => ok_isrow F C6 m_isinstance m_tuple m_len m_all
  have C8 : Can P w mg base S 1 "common_factor" ["one", "other"] W_cf := can_of D8 rfl fun F => ok_cf F m_abs
  have C9 : Can P w mg base S 2 "primitive" ["row"] W_prim := can_of D9 rfl fun F => ok_prim F C8 m_tuple
  have C10 : Can P w mg base S 1 "lead" ["row"] W_lead := can_of D10 rfl fun F => ok_lead F m_enumerate
  have C11 : Can P w mg base S 3 "without" ["row", "other"] W_wo := can_of D11 rfl fun F => ok_wo F C10 C9 m_tuple m_zip
  have C12 : Can P w mg base S 4 "reduced_by" ["rows", "row"] W_redby := can_of D12 rfl fun F => ok_redby F C11 C9
  have C13 : Can P w mg base S 5 "added" ["rows", "row"] W_added := can_of D13 rfl fun F => ok_added F C12 C10 C11 C9 m_sorted
  have C14 : Can P w mg base S 6 "reduced" ["rows", "width"] W_reduced := can_of D14 rfl fun F => ok_reduced F C7 C13
  have C15 : Can P w mg base S 7 "kernel" ["rows", "width"] W_kernel := can_of D15 rfl fun F => ok_kernel F C14 C10 C8 C9 m_range m_tuple
  have C17 : Can P w mg base S 7 "iter_rows" ["width", "rows"] W_iter := can_of D17 rfl fun F => ok_iter F C6 C14
  have CSpace___init__ : CanC P w mg base S 8 "Space" 0 ["self", "width", "rows"] W_spinit := by
    obtain ⟨f, fd, F, h1, h2⟩ := MSpace___init__.ex
    exact ⟨f, fd, ok_spinit F KSpace C17, h1, KSpace.gl, h2⟩
  have CSpace_rows : CanP P w mg base S 1 0 "rows" W_sprows := by
    obtain ⟨p, f, fd, F, h1, h2⟩ := MSpace_rows.ex
    exact ⟨p, f, fd, ok_sprows F KSpace m_list, h1, h2⟩
  have CSpace___len__ : CanM P w mg base S 1 0 "__len__" ["self"] W_splen := by
    obtain ⟨f, fd, F, h1, h2⟩ := MSpace___len__.ex
    exact ⟨f, fd, ok_splen F KSpace m_len, h1, h2⟩
  have CSpace___contains__ : CanM P w mg base S 5 0 "__contains__" ["self", "value"] W_spin := by
    obtain ⟨f, fd, F, h1, h2⟩ := MSpace___contains__.ex
    exact ⟨f, fd, ok_spin F KSpace C7 C10 C12, h1, h2⟩
  have CSpace___eq__ : CanM P w mg base S 1 0 "__eq__" ["self", "other"] W_speq := by
    obtain ⟨f, fd, F, h1, h2⟩ := MSpace___eq__.ex
    exact ⟨f, fd, ok_speq F KSpace m_isinstance, h1, h2⟩
  have CSpace_check : CanM P w mg base S 1 0 "check" ["self", "other"] W_spcheck := by
    obtain ⟨f, fd, F, h1, h2⟩ := MSpace_check.ex
    exact ⟨f, fd, ok_spcheck F KSpace m_isinstance, h1, h2⟩
  have CSpace___or__ : CanM P w mg base S 10 0 "__or__" ["self", "other"] W_spor := by
    obtain ⟨f, fd, F, h1, h2⟩ := MSpace___or__.ex
    exact ⟨f, fd, ok_spor F KSpace CSpace_check CSpace___init__, h1, h2⟩
  have CSpace_is_within : CanM P w mg base S 6 0 "is_within" ["self", "other"] W_spwithin := by
    obtain ⟨f, fd, F, h1, h2⟩ := MSpace_is_within.ex
    exact ⟨f, fd, ok_spwithin F KSpace CSpace_check CSpace___contains__ m_all, h1, h2⟩
  have C26 : Can P w mg base S 1 "_law_mw_common" ["one", "other"] W_mwcommon := can_of D26 rfl fun F => ok_mwcommon F m_abs m_range
  have C27 : Can P w mg base S 2 "_law_mw_primitive" ["row"] W_mwprim := can_of D27 rfl fun F => ok_mwprim F C26 m_tuple
  have C28 : Can P w mg base S 3 "_law_mw_without" ["row", "lead_v", "other"] W_mwwo := can_of D28 rfl fun F => ok_mwwo F C27 m_len m_range
  have C29 : Can P w mg base S 4 "_law_mw_taken" ["found", "row"] W_taken := can_of D29 rfl fun F => ok_taken F C27 C28 m_len m_range m_sorted m_list
  have C30 : Can P w mg base S 5 "_law_mw_reduced" ["some"] W_mwred := can_of D30 rfl fun F => ok_mwred F C29 m_sorted m_list
  have C31 : Can P w mg base S 4 "_law_mw_is_spanned" ["reduced_now", "row"] W_spd := can_of D31 rfl fun F => ok_spd F C27 C28 m_len m_range
  have C33 : Can P w mg base S 3 "_law_rw_number" ["jar"] W_number := can_of D33 rfl fun F => ok_number F C22 C21
  have C34 : Can P w mg base S 4 "_law_rw_rows" ["jar", "wide"] W_rows := can_of D34 rfl fun F => ok_rows F C21 C22 C33 m_range m_tuple
  have C25 : Can P w mg base S 7 "_law_yq_same" ["heard_one", "owed"] (W_same 5) := by
    obtain ⟨f, fd, F, h1, h2, h3⟩ := D25.ex
    exact ⟨f, fd, ok_same F h1 h3 C24 ⟨m_isinstance, m_int, m_bool, m_str, m_tuple, m_list, m_len, m_range⟩ 5, h1, h2, h3⟩
  have C35 : Can P w mg base S 12 "_law_sq_kernel" ["some", "wide"] W_sqk := by
    obtain ⟨f, fd, F, h1, h2, h3, _⟩ := D35.ex
    exact ⟨f, fd, ok_sqk F TB35 hm35 hu35 FH hg hgb C15 CSpace___init__ KSpace m_list, h1, h2, h3⟩
  have C36 : Can P w mg base S 12 "_law_sq_space" ["some", "wide"] W_sqs := by
    obtain ⟨f, fd, F, h1, h2, h3, _⟩ := D36.ex
    exact ⟨f, fd, ok_sqs F TB36 hm36 hu36 FH hg hgb CSpace___init__ KSpace m_list, h1, h2, h3⟩
  have C37 : Can P w mg base S 5 "_law_sq_rows" ["space"] W_sqr := by
    obtain ⟨f, fd, F, h1, h2, h3, _⟩ := D37.ex
    exact ⟨f, fd, ok_sqr F TB37 hm37 hu37 FH hg hgb CSpace_rows CSpace___len__ KSpace m_len, h1, h2, h3⟩
  have C38 : Can P w mg base S 1 "_law_sq_due" ["reduced_now"] W_sqd := can_of D38 rfl fun F => ok_sqd F m_len
  have C40 : Can P w mg base S 13 "_law_sq_back" ["space", "wide"] W_sqb := by
    obtain ⟨f, fd, F, h1, h2, h3, _⟩ := D40.ex
    exact ⟨f, fd, ok_sqb F TB40 hm40 hu40 FH hg hgb CSpace_rows C35 KSpace, h1, h2, h3⟩
  have C41 : Can P w mg base S 13 "_law_sq_common" ["first", "second", "wide"] W_sqc := by
    obtain ⟨f, fd, F, h1, h2, h3, _⟩ := D41.ex
    exact ⟨f, fd, ok_sqc F TB41 hm41 hu41 FH hg hgb CSpace_rows CSpace___or__ C35 KSpace, h1, h2, h3⟩
  have C39 : Can P w mg base S 14 "_law_sq_kernels_right" ["jar", "one", "two", "wide"] W_sqkr := by
    obtain ⟨f, fd, F, h1, h2, h3, _⟩ := D39.ex
    exact ⟨f, fd, ok_sqkr F TB39 hm39 hu39 FH hg hgb C35 C30 CSpace___len__ C40 C41 C25 C37 C38 CSpace_rows C31 KSpace m_len m_isinstance m_list, h1, h2, h3⟩
  have C42 : Can P w mg base S 13 "_law_sq_joined_right" ["jar", "parts_now", "wide"] W_sqj := by
    obtain ⟨f, fd, F, h1, h2, h3, _⟩ := D42.ex
    exact ⟨f, fd, ok_sqj F TB42 hm42 hu42 FH hg hgb C36 C23 CSpace___or__ C37 C30 C38 C25 CSpace_is_within CSpace___eq__ KSpace, h1, h2, h3⟩
  have C43 : Can P w mg base S 13 "_law_sq_chain_right" ["jar", "some", "wide"] W_sqch := by
    obtain ⟨f, fd, F, h1, h2, h3, _⟩ := D43.ex
    exact ⟨f, fd, ok_sqch F TB43 hm43 hu43 FH hg hgb C36 C21 C30 C25 CSpace_is_within KSpace m_range m_tuple m_int, h1, h2, h3⟩
  have C44 : Can P w mg base S 3 "_law_sq_planted" ["jar", "wide"] W_sqp := can_of D44 rfl fun F => ok_sqp F C23 C21 m_len m_range m_tuple m_int
  have C45 : Can P w mg base S 15 "_law_led" ["script"] W_led := can_of D45 rfl fun F => ok_led F C20 C21 C34 C39 C42 C44 C43 m_range
  exact ok_law F46 TB46 hm46 hu46 FH hg hgb C45 C25
theorem law_at {l : PySem.W.OpenLaw} {w : World} {K : PySem.W.Frag} {h : Heap} {mg : Str → Option Value} {fa Cls c35 T35 c36 T36 c37 T37 c39 T39 c40 T40 c41 T41 c42 T42 c43 T43 c46 T46 : Addr} (X : K.In h) (hfa : mg "law" = some (.ref fa))
    (D6 : DefK K mg "is_integer" (topS 6) ["value"]) (D7 : DefK K mg "is_row" (topS 7) ["value", "width"]) (D8 : DefK K mg "common_factor" (topS 8) ["one", "other"]) (D9 : DefK K mg "primitive" (topS 9) ["row"]) (D10 : DefK K mg "lead" (topS 10) ["row"]) (D11 : DefK K mg "without" (topS 11) ["row", "other"]) (D12 : DefK K mg "reduced_by" (topS 12) ["rows", "row"]) (D13 : DefK K mg "added" (topS 13) ["rows", "row"]) (D14 : DefK K mg "reduced" (topS 14) ["rows", "width"]) (D15 : DefK K mg "kernel" (topS 15) ["rows", "width"]) (D17 : DefK K mg "iter_rows" (topS 17) ["width", "rows"]) (D20 : DefK K mg "_law_pool" (topS 20) ["script"]) (D21 : DefK K mg "_law_take" (topS 21) ["jar", "many"]) (D22 : DefK K mg "_law_one" (topS 22) ["jar", "things"]) (D23 : DefK K mg "_law_mixed" (topS 23) ["jar", "things"]) (D24 : DefK K mg "_law_yq_is_whole" (topS 24) ["thing"]) (D25 : DefK K mg "_law_yq_same" (topS 25) ["heard_one", "owed"]) (D26 : DefK K mg "_law_mw_common" (topS 26) ["one", "other"]) (D27 : DefK K mg "_law_mw_primitive" (topS 27) ["row"]) (D28 : DefK K mg "_law_mw_without" (topS 28) ["row", "lead_v", "other"]) (D29 : DefK K mg "_law_mw_taken" (topS 29) ["found", "row"]) (D30 : DefK K mg "_law_mw_reduced" (topS 30) ["some"]) (D31 : DefK K mg "_law_mw_is_spanned" (topS 31) ["reduced_now", "row"]) (D32 : DefK K mg "_law_heard" (topS 32) ["deed"]) (D33 : DefK K mg "_law_rw_number" (topS 33) ["jar"]) (D34 : DefK K mg "_law_rw_rows" (topS 34) ["jar", "wide"]) (D35 : DefL K mg "_law_sq_kernel" (topS 35) ["some", "wide"] c35) (D36 : DefL K mg "_law_sq_space" (topS 36) ["some", "wide"] c36) (D37 : DefL K mg "_law_sq_rows" (topS 37) ["space"] c37) (D38 : DefK K mg "_law_sq_due" (topS 38) ["reduced_now"]) (D39 : DefL K mg "_law_sq_kernels_right" (topS 39) ["jar", "one", "two", "wide"] c39) (D40 : DefL K mg "_law_sq_back" (topS 40) ["space", "wide"] c40) (D41 : DefL K mg "_law_sq_common" (topS 41) ["first", "second", "wide"] c41) (D42 : DefL K mg "_law_sq_joined_right" (topS 42) ["jar", "parts_now", "wide"] c42) (D43 : DefL K mg "_law_sq_chain_right" (topS 43) ["jar", "some", "wide"] c43) (D44 : DefK K mg "_law_sq_planted" (topS 44) ["jar", "wide"]) (D45 : DefK K mg "_law_led" (topS 45) ["script"]) (D46 : DefL K mg "law" (topS 46) ["script"] c46)
    (MSpace___init__ : DefI K Cls "__init__" "Space.__init__" (inClass (topS 18) 0) ["self", "width", "rows"]) (MSpace_rows : DefP K Cls "rows" "Space.rows" (inClass (topS 18) 2) ["self"]) (MSpace___len__ : DefM K Cls "__len__" "Space.__len__" (inClass (topS 18) 3) ["self"]) (MSpace___contains__ : DefM K Cls "__contains__" "Space.__contains__" (inClass (topS 18) 5) ["self", "value"]) (MSpace___eq__ : DefM K Cls "__eq__" "Space.__eq__" (inClass (topS 18) 6) ["self", "other"]) (MSpace_check : DefM K Cls "check" "Space.check" (inClass (topS 18) 7) ["self", "other"]) (MSpace___or__ : DefM K Cls "__or__" "Space.__or__" (inClass (topS 18) 8) ["self", "other"]) (MSpace_is_within : DefM K Cls "is_within" "Space.is_within" (inClass (topS 18) 9) ["self", "other"]) (KSpace : ∀ T, SpaceK ⟨K, fun _ => Cls, fun _ => [("length" : Str), ("basis" : Str)], T⟩ mg)
    (m_abs : mg "abs" = none) (m_all : mg "all" = none) (m_bool : mg "bool" = none) (m_enumerate : mg "enumerate" = none) (m_int : mg "int" = none) (m_isinstance : mg "isinstance" = none) (m_len : mg "len" = none) (m_list : mg "list" = none) (m_max : mg "max" = none) (m_range : mg "range" = none) (m_sorted : mg "sorted" = none) (m_str : mg "str" = none) (m_tuple : mg "tuple" = none) (m_zip : mg "zip" = none)
    (t35 : h.get? T35 = some (PySem.W.tabObj #[])) (t36 : h.get? T36 = some (PySem.W.tabObj #[])) (t37 : h.get? T37 = some (PySem.W.tabObj #[])) (t39 : h.get? T39 = some (PySem.W.tabObj #[])) (t40 : h.get? T40 = some (PySem.W.tabObj #[])) (t41 : h.get? T41 = some (PySem.W.tabObj #[])) (t42 : h.get? T42 = some (PySem.W.tabObj #[])) (t43 : h.get? T43 = some (PySem.W.tabObj #[])) (t46 : h.get? T46 = some (PySem.W.tabObj #[])) (n35 : K.lookup T35 = none) (n36 : K.lookup T36 = none) (n37 : K.lookup T37 = none) (n39 : K.lookup T39 = none) (n40 : K.lookup T40 = none) (n41 : K.lookup T41 = none) (n42 : K.lookup T42 = none) (n43 : K.lookup T43 = none) (n46 : K.lookup T46 = none) (e35 : PySem.W.codeHdIn K c35 T35 = true) (e36 : PySem.W.codeHdIn K c36 T36 = true) (e37 : PySem.W.codeHdIn K c37 T37 = true) (e39 : PySem.W.codeHdIn K c39 T39 = true) (e40 : PySem.W.codeHdIn K c40 T40 = true) (e41 : PySem.W.codeHdIn K c41 T41 = true) (e42 : PySem.W.codeHdIn K c42 T42 = true) (e43 : PySem.W.codeHdIn K c43 T43 = true) (e46 : PySem.W.codeHdIn K c46 T46 = true) (ne35_36 : T35 ≠ T36) (ne35_37 : T35 ≠ T37) (ne35_39 : T35 ≠ T39) (ne35_40 : T35 ≠ T40) (ne35_41 : T35 ≠ T41) (ne35_42 : T35 ≠ T42) (ne35_43 : T35 ≠ T43) (ne35_46 : T35 ≠ T46) (ne36_37 : T36 ≠ T37) (ne36_39 : T36 ≠ T39) (ne36_40 : T36 ≠ T40) (ne36_41 : T36 ≠ T41) (ne36_42 : T36 ≠ T42) (ne36_43 : T36 ≠ T43) (ne36_46 : T36 ≠ T46) (ne37_39 : T37 ≠ T39) (ne37_40 : T37 ≠ T40) (ne37_41 : T37 ≠ T41) (ne37_42 : T37 ≠ T42) (ne37_43 : T37 ≠ T43) (ne37_46 : T37 ≠ T46) (ne39_40 : T39 ≠ T40) (ne39_41 : T39 ≠ T41) (ne39_42 : T39 ≠ T42) (ne39_43 : T39 ≠ T43) (ne39_46 : T39 ≠ T46) (ne40_41 : T40 ≠ T41) (ne40_42 : T40 ≠ T42) (ne40_43 : T40 ≠ T43) (ne40_46 : T40 ≠ T46) (ne41_42 : T41 ≠ T42) (ne41_43 : T41 ≠ T43) (ne41_46 : T41 ≠ T46) (ne42_43 : T42 ≠ T43) (ne42_46 : T42 ≠ T46) (ne43_46 : T43 ≠ T46) :
    LamX.LawAtS l w K CX0 18 63 "script" mg fa h := by
  obtain ⟨f, fd, F, hf, hk, hb, ha⟩ := D46.ex
  have ef : fa = f := by have := hfa.symm.trans hf; cases this; rfl
  subst ef
  refine ⟨fd, [(c35, T35), (c36, T36), (c37, T37), (c39, T39), (c40, T40), (c41, T41), (c42, T42), (c43, T43), (c46, T46)], spA ⟨K, fun _ => Cls, fun _ => [("length" : Str), ("basis" : Str)], [(T35, (("_law_sq_kernel" : Str) ++ ".<locals>.") ++ "<lambda>"), (T36, (("_law_sq_space" : Str) ++ ".<locals>.") ++ "<lambda>"), (T37, (("_law_sq_rows" : Str) ++ ".<locals>.") ++ "<lambda>"), (T39, (("_law_sq_kernels_right" : Str) ++ ".<locals>.") ++ "<lambda>"), (T40, (("_law_sq_back" : Str) ++ ".<locals>.") ++ "<lambda>"), (T41, (("_law_sq_common" : Str) ++ ".<locals>.") ++ "<lambda>"), (T42, (("_law_sq_joined_right" : Str) ++ ".<locals>.") ++ "<lambda>"), (T43, (("_law_sq_chain_right" : Str) ++ ".<locals>.") ++ "<lambda>"), (T46, (("law" : Str) ++ ".<locals>.") ++ "<lambda>")]⟩ 1 W_law, ?_, ?_, ?_, ?_, ?_, ?_⟩
  · intro p hp
    simp only [List.mem_cons, List.not_mem_nil, or_false] at hp
    rcases hp with rfl | rfl | rfl | rfl | rfl | rfl | rfl | rfl | rfl
    · exact t35
    · exact t36
    · exact t37
    · exact t39
    · exact t40
    · exact t41
    · exact t42
    · exact t43
    · exact t46
  · intro p hp
    simp only [List.mem_cons, List.not_mem_nil, or_false] at hp
    rcases hp with rfl | rfl | rfl | rfl | rfl | rfl | rfl | rfl | rfl
    · exact n35
    · exact n36
    · exact n37
    · exact n39
    · exact n40
    · exact n41
    · exact n42
    · exact n43
    · exact n46
  · intro p hp
    simp only [List.mem_cons, List.not_mem_nil, or_false] at hp
    rcases hp with rfl | rfl | rfl | rfl | rfl | rfl | rfl | rfl | rfl
    · exact PySem.W.codeHd_of_K X e35
    · exact PySem.W.codeHd_of_K X e36
    · exact PySem.W.codeHd_of_K X e37
    · exact PySem.W.codeHd_of_K X e39
    · exact PySem.W.codeHd_of_K X e40
    · exact PySem.W.codeHd_of_K X e41
    · exact PySem.W.codeHd_of_K X e42
    · exact PySem.W.codeHd_of_K X e43
    · exact PySem.W.codeHd_of_K X e46
  · intro s u
    exact .of_eq (ha [u] rfl)
  · intro H a ns hl _ hT hS
    refine law_sp hl (fun p hp => ?_) hS
    simp only [List.mem_cons, List.not_mem_nil, or_false] at hp
    rcases hp with rfl | rfl | rfl | rfl | rfl | rfl | rfl | rfl | rfl
    · exact hT (c35, T35) (by simp)
    · exact hT (c36, T36) (by simp)
    · exact hT (c37, T37) (by simp)
    · exact hT (c39, T39) (by simp)
    · exact hT (c40, T40) (by simp)
    · exact hT (c41, T41) (by simp)
    · exact hT (c42, T42) (by simp)
    · exact hT (c43, T43) (by simp)
    · exact hT (c46, T46) (by simp)
  · intro base hX hG hT
    refine law_fn (S := ⟨K, fun _ => Cls, fun _ => [("length" : Str), ("basis" : Str)], [(T35, (("_law_sq_kernel" : Str) ++ ".<locals>.") ++ "<lambda>"), (T36, (("_law_sq_space" : Str) ++ ".<locals>.") ++ "<lambda>"), (T37, (("_law_sq_rows" : Str) ++ ".<locals>.") ++ "<lambda>"), (T39, (("_law_sq_kernels_right" : Str) ++ ".<locals>.") ++ "<lambda>"), (T40, (("_law_sq_back" : Str) ++ ".<locals>.") ++ "<lambda>"), (T41, (("_law_sq_common" : Str) ++ ".<locals>.") ++ "<lambda>"), (T42, (("_law_sq_joined_right" : Str) ++ ".<locals>.") ++ "<lambda>"), (T43, (("_law_sq_chain_right" : Str) ++ ".<locals>.") ++ "<lambda>"), (T46, (("law" : Str) ++ ".<locals>.") ++ "<lambda>")]⟩) D6 D7 D8 D9 D10 D11 D12 D13 D14 D15 D17 D20 D21 D22 D23 D24 D25 D26 D27 D28 D29 D30 D31 D32 D33 D34 D35 D36 D37 D38 D39 D40 D41 D42 D43 D44 D45 D46 MSpace___init__ MSpace_rows MSpace___len__ MSpace___contains__ MSpace___eq__ MSpace_check MSpace___or__ MSpace_is_within (KSpace _) m_abs m_all m_bool m_enumerate m_int m_isinstance m_len m_list m_max m_range m_sorted m_str m_tuple m_zip (hT (c35, T35) (by simp)) (by simp) (fun q hq e => ?_) (hT (c36, T36) (by simp)) (by simp) (fun q hq e => ?_) (hT (c37, T37) (by simp)) (by simp) (fun q hq e => ?_) (hT (c39, T39) (by simp)) (by simp) (fun q hq e => ?_) (hT (c40, T40) (by simp)) (by simp) (fun q hq e => ?_) (hT (c41, T41) (by simp)) (by simp) (fun q hq e => ?_) (hT (c42, T42) (by simp)) (by simp) (fun q hq e => ?_) (hT (c43, T43) (by simp)) (by simp) (fun q hq e => ?_) (hT (c46, T46) (by simp)) (by simp) (fun q hq e => ?_) F
    · simp only [List.mem_cons, List.not_mem_nil, or_false] at hq
      rcases hq with rfl | rfl | rfl | rfl | rfl | rfl | rfl | rfl | rfl
      · rfl
      · exact absurd e.symm ne35_36
      · exact absurd e.symm ne35_37
      · exact absurd e.symm ne35_39
      · exact absurd e.symm ne35_40
      · exact absurd e.symm ne35_41
      · exact absurd e.symm ne35_42
      · exact absurd e.symm ne35_43
      · exact absurd e.symm ne35_46
    · simp only [List.mem_cons, List.not_mem_nil, or_false] at hq
      rcases hq with rfl | rfl | rfl | rfl | rfl | rfl | rfl | rfl | rfl
      · exact absurd e ne35_36
      · rfl
      · exact absurd e.symm ne36_37
      · exact absurd e.symm ne36_39
      · exact absurd e.symm ne36_40
      · exact absurd e.symm ne36_41
      · exact absurd e.symm ne36_42
      · exact absurd e.symm ne36_43
      · exact absurd e.symm ne36_46
    · simp only [List.mem_cons, List.not_mem_nil, or_false] at hq
      rcases hq with rfl | rfl | rfl | rfl | rfl | rfl | rfl | rfl | rfl
      · exact absurd e ne35_37
      · exact absurd e ne36_37
      · rfl
      · exact absurd e.symm ne37_39
      · exact absurd e.symm ne37_40
      · exact absurd e.symm ne37_41
      · exact absurd e.symm ne37_42
      · exact absurd e.symm ne37_43
      · exact absurd e.symm ne37_46
    · simp only [List.mem_cons, List.not_mem_nil, or_false] at hq
      rcases hq with rfl | rfl | rfl | rfl | rfl | rfl | rfl | rfl | rfl
      · exact absurd e ne35_39
      · exact absurd e ne36_39
      · exact absurd e ne37_39
      · rfl
      · exact absurd e.symm ne39_40
      · exact absurd e.symm ne39_41
      · exact absurd e.symm ne39_42
      · exact absurd e.symm ne39_43
      · exact absurd e.symm ne39_46
    · simp only [List.mem_cons, List.not_mem_nil, or_false] at hq
      rcases hq with rfl | rfl | rfl | rfl | rfl | rfl | rfl | rfl | rfl
      · exact absurd e ne35_40
      · exact absurd e ne36_40
      · exact absurd e ne37_40
      · exact absurd e ne39_40
      · rfl
      · exact absurd e.symm ne40_41
      · exact absurd e.symm ne40_42
      · exact absurd e.symm ne40_43
      · exact absurd e.symm ne40_46
    · simp only [List.mem_cons, List.not_mem_nil, or_false] at hq
      rcases hq with rfl | rfl | rfl | rfl | rfl | rfl | rfl | rfl | rfl
      · exact absurd e ne35_41
      · exact absurd e ne36_41
      · exact absurd e ne37_41
      · exact absurd e ne39_41
      · exact absurd e ne40_41
      · rfl
      · exact absurd e.symm ne41_42
      · exact absurd e.symm ne41_43
      · exact absurd e.symm ne41_46
    · simp only [List.mem_cons, List.not_mem_nil, or_false] at hq
      rcases hq with rfl | rfl | rfl | rfl | rfl | rfl | rfl | rfl | rfl
      · exact absurd e ne35_42
      · exact absurd e ne36_42
      · exact absurd e ne37_42
      · exact absurd e ne39_42
      · exact absurd e ne40_42
      · exact absurd e ne41_42
      · rfl
      · exact absurd e.symm ne42_43
      · exact absurd e.symm ne42_46
    · simp only [List.mem_cons, List.not_mem_nil, or_false] at hq
      rcases hq with rfl | rfl | rfl | rfl | rfl | rfl | rfl | rfl | rfl
      · exact absurd e ne35_43
      · exact absurd e ne36_43
      · exact absurd e ne37_43
      · exact absurd e ne39_43
      · exact absurd e ne40_43
      · exact absurd e ne41_43
      · exact absurd e ne42_43
      · rfl
      · exact absurd e.symm ne43_46
    · simp only [List.mem_cons, List.not_mem_nil, or_false] at hq
      rcases hq with rfl | rfl | rfl | rfl | rfl | rfl | rfl | rfl | rfl
      · exact absurd e ne35_46
      · exact absurd e ne36_46
      · exact absurd e ne37_46
      · exact absurd e ne39_46
      · exact absurd e ne40_46
      · exact absurd e ne41_46
      · exact absurd e ne42_46
      · exact absurd e ne43_46
      · rfl
end K21
open PySem PySem.W PyProof.Rows
set_option maxHeartbeats 0 in
theorem PySem.Challenge.cw_whosees_k25_spaces_together_holds : PySem.Challenge.rw_whosees_k25_spaces_together.Holds := by
  w_on; o_law; k_head; (case hw => w_witness2)
  k_fill
  refine LamX.walk_ofTs (l := PySem.Challenge.rw_whosees_k25_spaces_together) (n := 63) (k := 18) (x := "script") (CX := fun _ => L2.CX0) rfl (by decide) rfl ⟨rfl, by decide, by decide⟩ (fun w h Y => PySem.W.km_in_of Y) ?F fun _ _ _ _ _ z => z
  case F =>
    intro w mg fa h Y KX G hmg
    have t := PySem.W.km_tabs_of Y
    refine' K21.law_at (T35 := 332) (T36 := 339) (T37 := 346) (T39 := 360) (T40 := 365) (T41 := 372) (T42 := 379) (T43 := 384) (T46 := 399) KX hmg (K21.d_is_integer KX G ?a6 ?l6 ?c6 ?k6) (K21.d_is_row KX G ?a7 ?l7 ?c7 ?k7) (K21.d_common_factor KX G ?a8 ?l8 ?c8 ?k8) (K21.d_primitive KX G ?a9 ?l9 ?c9 ?k9) (K21.d_lead KX G ?a10 ?l10 ?c10 ?k10) (K21.d_without KX G ?a11 ?l11 ?c11 ?k11) (K21.d_reduced_by KX G ?a12 ?l12 ?c12 ?k12) (K21.d_added KX G ?a13 ?l13 ?c13 ?k13) (K21.d_reduced KX G ?a14 ?l14 ?c14 ?k14) (K21.d_kernel KX G ?a15 ?l15 ?c15 ?k15) (K21.d_iter_rows KX G ?a17 ?l17 ?c17 ?k17) (K21.d__law_pool KX G ?a20 ?l20 ?c20 ?k20) (K21.d__law_take KX G ?a21 ?l21 ?c21 ?k21) (K21.d__law_one KX G ?a22 ?l22 ?c22 ?k22) (K21.d__law_mixed KX G ?a23 ?l23 ?c23 ?k23) (K21.d__law_yq_is_whole KX G ?a24 ?l24 ?c24 ?k24) (K21.d__law_yq_same KX G ?a25 ?l25 ?c25 ?k25) (K21.d__law_mw_common KX G ?a26 ?l26 ?c26 ?k26) (K21.d__law_mw_primitive KX G ?a27 ?l27 ?c27 ?k27) (K21.d__law_mw_without KX G ?a28 ?l28 ?c28 ?k28) (K21.d__law_mw_taken KX G ?a29 ?l29 ?c29 ?k29) (K21.d__law_mw_reduced KX G ?a30 ?l30 ?c30 ?k30) (K21.d__law_mw_is_spanned KX G ?a31 ?l31 ?c31 ?k31) (K21.d__law_heard KX G ?a32 ?l32 ?c32 ?k32) (K21.d__law_rw_number KX G ?a33 ?l33 ?c33 ?k33) (K21.d__law_rw_rows KX G ?a34 ?l34 ?c34 ?k34) (K21.d__law_sq_kernel KX G ?a35 ?l35 ?c35 ?k35) (K21.d__law_sq_space KX G ?a36 ?l36 ?c36 ?k36) (K21.d__law_sq_rows KX G ?a37 ?l37 ?c37 ?k37) (K21.d__law_sq_due KX G ?a38 ?l38 ?c38 ?k38) (K21.d__law_sq_kernels_right KX G ?a39 ?l39 ?c39 ?k39) (K21.d__law_sq_back KX G ?a40 ?l40 ?c40 ?k40) (K21.d__law_sq_common KX G ?a41 ?l41 ?c41 ?k41) (K21.d__law_sq_joined_right KX G ?a42 ?l42 ?c42 ?k42) (K21.d__law_sq_chain_right KX G ?a43 ?l43 ?c43 ?k43) (K21.d__law_sq_planted KX G ?a44 ?l44 ?c44 ?k44) (K21.d__law_led KX G ?a45 ?l45 ?c45 ?k45) (K21.d_law KX G ?a46 ?l46 ?c46 ?k46) (K21.dm_Space___init__ ?Space___init___mk ?Space___init___a ?Space___init___i ?Space___init___kc ?Space___init___l ?Space___init___c ?Space___init___k) (K21.dm_Space_rows ?Space_rows_a ?Space_rows_g ?Space_rows_t ?Space_rows_r ?Space_rows_l ?Space_rows_c ?Space_rows_k) (K21.dm_Space___len__ ?Space___len___a ?Space___len___i ?Space___len___l ?Space___len___c ?Space___len___k) (K21.dm_Space___contains__ ?Space___contains___a ?Space___contains___i ?Space___contains___l ?Space___contains___c ?Space___contains___k) (K21.dm_Space___eq__ ?Space___eq___a ?Space___eq___i ?Space___eq___l ?Space___eq___c ?Space___eq___k) (K21.dm_Space_check ?Space_check_a ?Space_check_i ?Space_check_l ?Space_check_c ?Space_check_k) (K21.dm_Space___or__ ?Space___or___a ?Space___or___i ?Space___or___l ?Space___or___c ?Space___or___k) (K21.dm_Space_is_within ?Space_is_within_a ?Space_is_within_i ?Space_is_within_l ?Space_is_within_c ?Space_is_within_k) (K21.dk_Space KX G ?Space_a ?Space_pg ?Space_hd ?Space_po ?Space_sa ?Space_ha ?Space_hn ?Space_tk ?Space_hm ?Space_n0 ?Space_n1 ?Space_sf ?Space_nf) (PySem.W.mg_none_of KX G ?m_abs) (PySem.W.mg_none_of KX G ?m_all) (PySem.W.mg_none_of KX G ?m_bool) (PySem.W.mg_none_of KX G ?m_enumerate) (PySem.W.mg_none_of KX G ?m_int) (PySem.W.mg_none_of KX G ?m_isinstance) (PySem.W.mg_none_of KX G ?m_len) (PySem.W.mg_none_of KX G ?m_list) (PySem.W.mg_none_of KX G ?m_max) (PySem.W.mg_none_of KX G ?m_range) (PySem.W.mg_none_of KX G ?m_sorted) (PySem.W.mg_none_of KX G ?m_str) (PySem.W.mg_none_of KX G ?m_tuple) (PySem.W.mg_none_of KX G ?m_zip) (t _ ?i35) (t _ ?i36) (t _ ?i37) (t _ ?i39) (t _ ?i40) (t _ ?i41) (t _ ?i42) (t _ ?i43) (t _ ?i46) ?n35 ?n36 ?n37 ?n39 ?n40 ?n41 ?n42 ?n43 ?n46 ?e35 ?e36 ?e37 ?e39 ?e40 ?e41 ?e42 ?e43 ?e46 ?ne35_36 ?ne35_37 ?ne35_39 ?ne35_40 ?ne35_41 ?ne35_42 ?ne35_43 ?ne35_46 ?ne36_37 ?ne36_39 ?ne36_40 ?ne36_41 ?ne36_42 ?ne36_43 ?ne36_46 ?ne37_39 ?ne37_40 ?ne37_41 ?ne37_42 ?ne37_43 ?ne37_46 ?ne39_40 ?ne39_41 ?ne39_42 ?ne39_43 ?ne39_46 ?ne40_41 ?ne40_42 ?ne40_43 ?ne40_46 ?ne41_42 ?ne41_43 ?ne41_46 ?ne42_43 ?ne42_46 ?ne43_46
    (case Space_a => k_is)
    (case Space_pg => k_is)
    (case Space_hd => k_is)
    (case Space_po => k_is)
    (case Space_sa => k_is)
    (case Space_ha => k_is)
    (case Space_hn => k_is)
    (case Space_tk => k_is)
    (case Space_hm => k_is)
    (case Space_n0 => k_is)
    (case Space_n1 => k_is)
    (case Space_sf => k_is)
    (case Space_nf => k_is)
    (case a6 => k_is)
    (case l6 => k_is)
    (case c6 => k_is)
    (case k6 => k_is)
    (case a7 => k_is)
    (case l7 => k_is)
    (case c7 => k_is)
    (case k7 => k_is)
    (case a8 => k_is)
    (case l8 => k_is)
    (case c8 => k_is)
    (case k8 => k_is)
    (case a9 => k_is)
    (case l9 => k_is)
    (case c9 => k_is)
    (case k9 => k_is)
    (case a10 => k_is)
    (case l10 => k_is)
    (case c10 => k_is)
    (case k10 => k_is)
    (case a11 => k_is)
    (case l11 => k_is)
    (case c11 => k_is)
    (case k11 => k_is)
    (case a12 => k_is)
    (case l12 => k_is)
    (case c12 => k_is)
    (case k12 => k_is)
    (case a13 => k_is)
    (case l13 => k_is)
    (case c13 => k_is)
    (case k13 => k_is)
    (case a14 => k_is)
    (case l14 => k_is)
    (case c14 => k_is)
    (case k14 => k_is)
    (case a15 => k_is)
    (case l15 => k_is)
    (case c15 => k_is)
    (case k15 => k_is)
    (case a17 => k_is)
    (case l17 => k_is)
    (case c17 => k_is)
    (case k17 => k_is)
    (case a20 => k_is)
    (case l20 => k_is)
    (case c20 => k_is)
    (case k20 => k_is)
    (case a21 => k_is)
    (case l21 => k_is)
    (case c21 => k_is)
    (case k21 => k_is)
    (case a22 => k_is)
    (case l22 => k_is)
    (case c22 => k_is)
    (case k22 => k_is)
    (case a23 => k_is)
    (case l23 => k_is)
    (case c23 => k_is)
    (case k23 => k_is)
    (case a24 => k_is)
    (case l24 => k_is)
    (case c24 => k_is)
    (case k24 => k_is)
    (case a25 => k_is)
    (case l25 => k_is)
    (case c25 => k_is)
    (case k25 => k_is)
    (case a26 => k_is)
    (case l26 => k_is)
    (case c26 => k_is)
    (case k26 => k_is)
    (case a27 => k_is)
    (case l27 => k_is)
    (case c27 => k_is)
    (case k27 => k_is)
    (case a28 => k_is)
    (case l28 => k_is)
    (case c28 => k_is)
    (case k28 => k_is)
    (case a29 => k_is)
    (case l29 => k_is)
    (case c29 => k_is)
    (case k29 => k_is)
    (case a30 => k_is)
    (case l30 => k_is)
    (case c30 => k_is)
    (case k30 => k_is)
    (case a31 => k_is)
    (case l31 => k_is)
    (case c31 => k_is)
    (case k31 => k_is)
    (case a32 => k_is)
    (case l32 => k_is)
    (case c32 => k_is)
    (case k32 => k_is)
    (case a33 => k_is)
    (case l33 => k_is)
    (case c33 => k_is)
    (case k33 => k_is)
    (case a34 => k_is)
    (case l34 => k_is)
    (case c34 => k_is)
    (case k34 => k_is)
    (case a35 => k_is)
    (case l35 => k_is)
    (case c35 => k_is)
    (case k35 => k_is)
    (case a36 => k_is)
    (case l36 => k_is)
    (case c36 => k_is)
    (case k36 => k_is)
    (case a37 => k_is)
    (case l37 => k_is)
    (case c37 => k_is)
    (case k37 => k_is)
    (case a38 => k_is)
    (case l38 => k_is)
    (case c38 => k_is)
    (case k38 => k_is)
    (case a39 => k_is)
    (case l39 => k_is)
    (case c39 => k_is)
    (case k39 => k_is)
    (case a40 => k_is)
    (case l40 => k_is)
    (case c40 => k_is)
    (case k40 => k_is)
    (case a41 => k_is)
    (case l41 => k_is)
    (case c41 => k_is)
    (case k41 => k_is)
    (case a42 => k_is)
    (case l42 => k_is)
    (case c42 => k_is)
    (case k42 => k_is)
    (case a43 => k_is)
    (case l43 => k_is)
    (case c43 => k_is)
    (case k43 => k_is)
    (case a44 => k_is)
    (case l44 => k_is)
    (case c44 => k_is)
    (case k44 => k_is)
    (case a45 => k_is)
    (case l45 => k_is)
    (case c45 => k_is)
    (case k45 => k_is)
    (case a46 => k_is)
    (case l46 => k_is)
    (case c46 => k_is)
    (case k46 => k_is)
    (case Space___init___mk => k_is)
    (case Space___init___a => k_is)
    (case Space___init___i => k_is)
    (case Space___init___kc => k_is)
    (case Space___init___l => k_is)
    (case Space___init___c => k_is)
    (case Space___init___k => k_is)
    (case Space_rows_a => k_is)
    (case Space_rows_g => k_is)
    (case Space_rows_t => k_is)
    (case Space_rows_r => k_is)
    (case Space_rows_l => k_is)
    (case Space_rows_c => k_is)
    (case Space_rows_k => k_is)
    (case Space___len___a => k_is)
    (case Space___len___i => k_is)
    (case Space___len___l => k_is)
    (case Space___len___c => k_is)
    (case Space___len___k => k_is)
    (case Space___contains___a => k_is)
    (case Space___contains___i => k_is)
    (case Space___contains___l => k_is)
    (case Space___contains___c => k_is)
    (case Space___contains___k => k_is)
    (case Space___eq___a => k_is)
    (case Space___eq___i => k_is)
    (case Space___eq___l => k_is)
    (case Space___eq___c => k_is)
    (case Space___eq___k => k_is)
    (case Space_check_a => k_is)
    (case Space_check_i => k_is)
    (case Space_check_l => k_is)
    (case Space_check_c => k_is)
    (case Space_check_k => k_is)
    (case Space___or___a => k_is)
    (case Space___or___i => k_is)
    (case Space___or___l => k_is)
    (case Space___or___c => k_is)
    (case Space___or___k => k_is)
    (case Space_is_within_a => k_is)
    (case Space_is_within_i => k_is)
    (case Space_is_within_l => k_is)
    (case Space_is_within_c => k_is)
    (case Space_is_within_k => k_is)
    (case m_abs => k_is)
    (case m_all => k_is)
    (case m_bool => k_is)
    (case m_enumerate => k_is)
    (case m_int => k_is)
    (case m_isinstance => k_is)
    (case m_len => k_is)
    (case m_list => k_is)
    (case m_max => k_is)
    (case m_range => k_is)
    (case m_sorted => k_is)
    (case m_str => k_is)
    (case m_tuple => k_is)
    (case m_zip => k_is)
    (case n35 => rfl)
    (case n36 => rfl)
    (case n37 => rfl)
    (case n39 => rfl)
    (case n40 => rfl)
    (case n41 => rfl)
    (case n42 => rfl)
    (case n43 => rfl)
    (case n46 => rfl)
    (case e35 => (refine' K21.hd_of ?l ?e; (case l => k_is); (case e => decide +kernel)))
    (case e36 => (refine' K21.hd_of ?l ?e; (case l => k_is); (case e => decide +kernel)))
    (case e37 => (refine' K21.hd_of ?l ?e; (case l => k_is); (case e => decide +kernel)))
    (case e39 => (refine' K21.hd_of ?l ?e; (case l => k_is); (case e => decide +kernel)))
    (case e40 => (refine' K21.hd_of ?l ?e; (case l => k_is); (case e => decide +kernel)))
    (case e41 => (refine' K21.hd_of ?l ?e; (case l => k_is); (case e => decide +kernel)))
    (case e42 => (refine' K21.hd_of ?l ?e; (case l => k_is); (case e => decide +kernel)))
    (case e43 => (refine' K21.hd_of ?l ?e; (case l => k_is); (case e => decide +kernel)))
    (case e46 => (refine' K21.hd_of ?l ?e; (case l => k_is); (case e => decide +kernel)))
    (case i35 => decide)
    (case i36 => decide)
    (case i37 => decide)
    (case i39 => decide)
    (case i40 => decide)
    (case i41 => decide)
    (case i42 => decide)
    (case i43 => decide)
    (case i46 => decide)
    (case ne35_36 => decide)
    (case ne35_37 => decide)
    (case ne35_39 => decide)
    (case ne35_40 => decide)
    (case ne35_41 => decide)
    (case ne35_42 => decide)
    (case ne35_43 => decide)
    (case ne35_46 => decide)
    (case ne36_37 => decide)
    (case ne36_39 => decide)
    (case ne36_40 => decide)
    (case ne36_41 => decide)
    (case ne36_42 => decide)
    (case ne36_43 => decide)
    (case ne36_46 => decide)
    (case ne37_39 => decide)
    (case ne37_40 => decide)
    (case ne37_41 => decide)
    (case ne37_42 => decide)
    (case ne37_43 => decide)
    (case ne37_46 => decide)
    (case ne39_40 => decide)
    (case ne39_41 => decide)
    (case ne39_42 => decide)
    (case ne39_43 => decide)
    (case ne39_46 => decide)
    (case ne40_41 => decide)
    (case ne40_42 => decide)
    (case ne40_43 => decide)
    (case ne40_46 => decide)
    (case ne41_42 => decide)
    (case ne41_43 => decide)
    (case ne41_46 => decide)
    (case ne42_43 => decide)
    (case ne42_46 => decide)
    (case ne43_46 => decide)
#print axioms PySem.Challenge.cw_whosees_k25_spaces_together_holds
