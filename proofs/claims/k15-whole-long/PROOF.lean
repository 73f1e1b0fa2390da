import PyProof.Rows.All
import Wide.All
import OpenK.AllK
import Wide.FinOn
import HandS.ForMost
import HandS.ForExc
import HandS.Style
import HandS.Conv
import HandS.IsInst
import HandS.WideBits
import HandS.Lambda
import HandS.ExcCtx
import HandS.EndBits
import HandS.ExcIs
import HandS.New0
import HandS.More
import HandS.Hot
import HandS.HotCalls
import HandS.EndOwn
import HandS.SetFor
import PySem.Challenge.RW_twoporch_k15_whole_long
import KE.KNestM
set_option Elab.async false
set_option linter.all false
set_option maxRecDepth 100000
set_option maxHeartbeats 8000000
/-! A functional twin of the hand layer: readings as functions over a small heap of our own. -/
namespace Tw
open PySem PySem.Spec PyProof.Rows L2

/-! ### values, objects, heaps -/
inductive W where
  | non | bl (b : Bool) | int (i : Int) | str (x : Str) | tup (xs : List W) | rl (xs : List W) | ref (n : Nat)
inductive Po where
  | lst (xs : List W) | dct (kvs : List (Int × W)) | rcd (d : Nat) (fs : List W) | ins (c : Nat) (fs : List W)
/-- a letter or an answer; a talk as plain data -/
inductive Ltr where
  | ltr (m w : Int) | ans (m : Int)
structure Tk where
  marks : Int
  window : Int
  life : Int
  said : List Int
  known : Int
  heard : List Int
  early : List (Int × Int)
  r0 : List (Ltr × Int)
  r1 : List (Ltr × Int)
  u0 : Bool
  u1 : Bool
  now : Int
  last : Int
def encL : Ltr → W
  | .ltr m w => .tup [.str "letter", .int m, .int w]
  | .ans m => .tup [.str "answer", .int m]
def encR (r : List (Ltr × Int)) : List W := r.map fun p => .tup [encL p.1, .int p.2]
def encE (r : List (Int × Int)) : List (Int × W) := r.map fun p => (p.1, .int p.2)
/-- as the program's object holds it, and as the law's dict does -/
def canT (T : Tk) : List Po := [.ins 0 [.int T.marks, .int T.window, .int T.life, .ref 1, .int T.known, .ref 2, .ref 3, .ref 4, .ref 7, .int T.now, .int T.last],
  .lst (T.said.map W.int), .lst (T.heard.map W.int), .dct (encE T.early), .lst [.ref 5, .ref 6], .lst (encR T.r0), .lst (encR T.r1), .lst [.bl T.u0, .bl T.u1]]
def canH (T : Tk) : List Po := [.rcd 0 [.tup [.int T.marks, .int T.window, .int T.life], .ref 1, .int T.known, .ref 2, .ref 3, .ref 4, .ref 7, .int T.now, .int T.last],
  .lst (T.said.map W.int), .lst (T.heard.map W.int), .dct (encE T.early), .lst [.ref 5, .ref 6], .lst (encR T.r0), .lst (encR T.r1), .lst [.bl T.u0, .bl T.u1]]
inductive Cell where
  | pl (o : Po) | tk (T : Tk) | hd (T : Tk) | fz (xs : List W) | tb (j : Nat) (q : Str) | lm (i : Nat) (w : W) | gone
abbrev VH := List Cell
abbrev Fm := List (Option W)

/-- a lambda of the text: its captured name, if it has one -/
structure LamRec where
  params : Arguments
  body : Expr
  scope : Scope
  qual : Str
  cap : Option Str
  prm : List Str
def cloOf (r : LamRec) (cc : Addr) : List (Str × Addr) := match r.cap with
  | some y => [(y, cc)]
  | none => []
/-- the lambda's object -/
def FnO (f : Addr) (r : LamRec) (cc : Addr) (pm : Value) (c' : Addr) (ctv : Value) : HO := .ext fun h => h.get? f = some (PySem.W.kla_obj "<lambda>" r.qual r.params r.body r.scope (cloOf r cc) pm c' ctv)
/-- the classes by number, their fields; the dicts of written keys by number, their keys; the lambdas, the captured cell and what it holds -/
structure Gm where
  K : PySem.W.Frag
  C : Nat → Addr
  fl : Nat → List Str
  rk : Nat → List Str
  pin : Option (Nat × Addr) := none
  lm : Nat → Option LamRec := fun _ => none
  cc : Addr := 0
  cv : Option (Option V) := none
/-- the slot is not held -/
def Gm.Free (G : Gm) (i : Nat) : Prop := ∀ a, G.pin ≠ some (i, a)

/-- a list that is known to the object, or stands in the written part: read only -/
def FzL (K : PySem.W.Frag) (H : Hp) (a : Addr) (xs : List V) : Prop := (∃ o, H a = some (.frz o (.lst xs))) ∨
    ∃ (o : Obj) (its : Array Value) (n : Nat), K.lookup a = some o ∧ o.cls = .type "list" ∧ o.dict = none ∧ o.data = .seq its n ∧ its.size ≤ sizeLine ∧ Vals xs its.toList
/-- what does not change -/
def Mt : HO → Prop
  | .tup _ => False
  | .frz _ _ => False
  | .ext _ => False
  | _ => True
def Stay (H H' : Hp) : Prop := ∀ a o, H a = some o → ¬ Mt o → H' a = some o
theorem Stay.none {H : Hp} {p : Addr} {o : HO} (np : H p = none) : Stay H (upd H p o) := fun a u e _ => by rw [upd_ne (ne_of_none e np)]; exact e
theorem Stay.some {H : Hp} {p : Addr} {o u : HO} (e : H p = some o) (m : Mt o) : Stay H (upd H p u) := fun a v z n => by
  rw [upd_ne]; exact z
  intro q; subst q; rw [e] at z; cases z; exact n m
theorem FzL.stay {K : PySem.W.Frag} {H H' : Hp} {a : Addr} {xs : List V} (h : FzL K H a xs) (s : Stay H H') : FzL K H' a xs := by
  rcases h with ⟨o, h⟩ | h
  · exact .inl ⟨o, s _ _ h id⟩
  · exact .inr h
theorem FzL.sq {K : PySem.W.Frag} {H : Hp} {a : Addr} {xs : List V} (h : FzL K H a xs) : SqL K H a xs := by
  rcases h with ⟨o, h⟩ | h
  · exact .inl (.inr ⟨o, h⟩)
  · exact .inr h
mutual
inductive RW (K : PySem.W.Frag) (ad : Nat → Option Addr) (H : Hp) : W → V → Prop
  | non : RW K ad H .non .non
  | bl (b : Bool) : RW K ad H (.bl b) (.bl b)
  | int (i : Int) : RW K ad H (.int i) (.int i)
  | str (x : Str) : RW K ad H (.str x) (.str x)
  | tup {a : Addr} {xs : List W} {vs : List V} (h : H a = some (.tup vs)) (r : RWs K ad H xs vs) : RW K ad H (.tup xs) (.ref a)
  | rl {a : Addr} {xs : List W} {vs : List V} (h : FzL K H a vs) (r : RWs K ad H xs vs) : RW K ad H (.rl xs) (.ref a)
  | ref {n : Nat} {a : Addr} (h : ad n = some a) : RW K ad H (.ref n) (.ref a)
inductive RWs (K : PySem.W.Frag) (ad : Nat → Option Addr) (H : Hp) : List W → List V → Prop
  | nil : RWs K ad H [] []
  | cons {w : W} {v : V} {ws : List W} {vs : List V} (h : RW K ad H w v) (t : RWs K ad H ws vs) : RWs K ad H (w :: ws) (v :: vs)
end

section
variable {K : PySem.W.Frag} {ad ad' : Nat → Option Addr} {H H' : Hp}
mutual
theorem RW.mono (h1 : ∀ n a, ad n = some a → ad' n = some a) (h2 : Stay H H') : ∀ {w : W} {v : V}, RW K ad H w v → RW K ad' H' w v
  | _, _, .non => .non
  | _, _, .bl b => .bl b
  | _, _, .int i => .int i
  | _, _, .str x => .str x
  | _, _, .tup h r => .tup (h2 _ _ h id) (RWs.mono h1 h2 r)
  | _, _, .rl h r => .rl (h.stay h2) (RWs.mono h1 h2 r)
  | _, _, .ref h => .ref (h1 _ _ h)
theorem RWs.mono (h1 : ∀ n a, ad n = some a → ad' n = some a) (h2 : Stay H H') : ∀ {w : List W} {v : List V}, RWs K ad H w v → RWs K ad' H' w v
  | _, _, .nil => .nil
  | _, _, .cons h t => .cons (RW.mono h1 h2 h) (RWs.mono h1 h2 t)
end
theorem RWs.length : ∀ {ws : List W} {vs : List V}, RWs K ad H ws vs → ws.length = vs.length
  | _, _, .nil => rfl
  | _, _, .cons _ t => by simp [RWs.length t]
theorem RWs.get : ∀ {ws : List W} {vs : List V} {i : Nat} {w : W}, RWs K ad H ws vs → ws[i]? = some w → ∃ v, vs[i]? = some v ∧ RW K ad H w v
  | _, _, _, _, .nil, e => by simp at e
  | _, _, 0, _, .cons h _, e => by simp at e; subst e; exact ⟨_, rfl, h⟩
  | _, _, i + 1, w, .cons _ t, e => by
    obtain ⟨v, h1, h2⟩ := RWs.get (i := i) (w := w) t (by simpa using e)
    exact ⟨v, by simpa using h1, h2⟩
theorem RWs.append : ∀ {ws ws' : List W} {vs vs' : List V}, RWs K ad H ws vs → RWs K ad H ws' vs' → RWs K ad H (ws ++ ws') (vs ++ vs')
  | _, _, _, _, .nil, s => s
  | _, _, _, _, .cons h t, s => .cons h (RWs.append t s)
theorem RWs.set {w : W} {v : V} (r : RW K ad H w v) : ∀ {ws : List W} {vs : List V} (i : Nat), RWs K ad H ws vs → RWs K ad H (ws.set i w) (vs.set i v)
  | _, _, _, .nil => .nil
  | _, _, 0, .cons _ t => .cons r t
  | _, _, i + 1, .cons q t => .cons q (RWs.set r i t)
theorem RWs.erase : ∀ {ws : List W} {vs : List V} (i : Nat), RWs K ad H ws vs → RWs K ad H (ws.eraseIdx i) (vs.eraseIdx i)
  | _, _, _, .nil => .nil
  | _, _, 0, .cons _ t => t
  | _, _, i + 1, .cons q t => .cons q (RWs.erase i t)
theorem RWs.take : ∀ {ws : List W} {vs : List V} (n : Nat), RWs K ad H ws vs → RWs K ad H (ws.take n) (vs.take n)
  | _, _, 0, _ => .nil
  | _, _, _ + 1, .nil => .nil
  | _, _, n + 1, .cons r t => .cons r (RWs.take n t)
theorem RWs.drop : ∀ {ws : List W} {vs : List V} (n : Nat), RWs K ad H ws vs → RWs K ad H (ws.drop n) (vs.drop n)
  | _, _, 0, r => r
  | _, _, _ + 1, .nil => .nil
  | _, _, n + 1, .cons _ t => RWs.drop n t
theorem RWs.reverse : ∀ {ws : List W} {vs : List V}, RWs K ad H ws vs → RWs K ad H ws.reverse vs.reverse
  | _, _, .nil => .nil
  | _, _, .cons h t => by
    rw [List.reverse_cons, List.reverse_cons]
    exact (RWs.reverse t).append (.cons h .nil)
theorem RWs.rep {ws : List W} {vs : List V} (r : RWs K ad H ws vs) : ∀ n : Nat, RWs K ad H (List.replicate n ws).flatten (List.replicate n vs).flatten
  | 0 => .nil
  | n + 1 => by
    rw [List.replicate_succ, List.replicate_succ, List.flatten_cons, List.flatten_cons]
    exact r.append (RWs.rep r n)
theorem RWs.ints : ∀ {ns : List Int} {vs : List V}, RWs K ad H (ns.map W.int) vs → vs = ns.map V.int
  | [], _, .nil => rfl
  | n :: ns, _, .cons h t => by
    cases h
    rw [RWs.ints t, List.map_cons]
theorem RWs.bls : ∀ {ns : List Bool} {vs : List V}, RWs K ad H (ns.map W.bl) vs → vs = ns.map V.bl
  | [], _, .nil => rfl
  | n :: ns, _, .cons h t => by
    cases h
    rw [RWs.bls t, List.map_cons]
theorem RWs.of_ints : ∀ (ns : List Int), RWs K ad H (ns.map W.int) (ns.map V.int)
  | [] => .nil
  | n :: ns => .cons (.int n) (RWs.of_ints ns)
end

/-- the root address of the n-th cell -/
def adr (io : List (List Addr)) (n : Nat) : Option Addr := (io[n]?).bind fun l => l.head?

/-! ### objects -/
def kvR (K : PySem.W.Frag) (ad : Nat → Option Addr) (H : Hp) : List (Int × W) → List (Key × V) → Prop := Paired fun p q => q.1 = Sum.inl p.1 ∧ RW K ad H p.2 q.2
def zipF (fs : List Str) (vs : List V) : List (Str × V) := fs.zip vs
def zipK (fs : List Str) (vs : List V) : List (Key × V) := (fs.map Sum.inr).zip vs
def ObjR (G : Gm) (ad : Nat → Option Addr) (H : Hp) (a : Addr) : Po → Prop
  | .lst xs => ∃ vs, H a = some (.lst vs) ∧ RWs G.K ad H xs vs
  | .dct kvs => ∃ kvs', H a = some (.dK kvs') ∧ kvR G.K ad H kvs kvs'
  | .rcd d fs => ∃ vs, H a = some (.dK (zipK (G.rk d) vs)) ∧ RWs G.K ad H fs vs ∧ fs.length = (G.rk d).length ∧ (G.rk d).Nodup
  | .ins c fs => ∃ vs dx, H a = some (.ins (G.C c) dx (zipF (G.fl c) vs)) ∧ RWs G.K ad H fs vs ∧ fs.length ≤ (G.fl c).length ∧ (G.fl c).Nodup ∧ (G.fl c).length ≤ 500
def BoxR (G : Gm) (H : Hp) (l : List Addr) (os : List Po) : Prop := l.length = os.length ∧ ∀ (i : Nat) (o : Po), os[i]? = some o → ∃ a, l[i]? = some a ∧ ObjR G (fun m => l[m]?) H a o
def CellR (G : Gm) (ad : Nat → Option Addr) (H : Hp) (l : List Addr) : Cell → Prop
  | .pl o => ∃ a, l = [a] ∧ ObjR G ad H a o
  | .tk T => BoxR G H l (canT T)
  | .hd T => BoxR G H l (canH T)
  | .fz xs => ∃ a vs o, l = [a] ∧ H a = some (.frz o (.lst vs)) ∧ RWs G.K ad H xs vs
  | .tb j q => ∃ ps, l = [G.C j] ∧ H (G.C j) = some (.tbl ps) ∧ TriplesOk ps.toList ∧ ∀ (pos : Pos) (cv : Value), codeAmong pos ps.toList = some cv → ∃ c, cv = .ref c ∧ H c = some (LamX.CodeO c q)
  | .lm i w => ∃ f r pm c' ctv v0, l = [f] ∧ G.lm i = some r ∧ H f = some (FnO f r G.cc pm c' ctv) ∧ H c' = some (LamX.CodeO c' r.qual) ∧ RW G.K ad H w v0 ∧ ∀ ov, G.cv = some ov → r.cap ≠ none → ∃ v, ov = some v ∧ RW G.K ad H w v
  | .gone => ∀ a ∈ l, ∃ u, H a = some u
structure Emb (G : Gm) (io : List (List Addr)) (h : VH) (H : Hp) : Prop where
  len : io.length = h.length
  nd : io.flatten.Nodup
  at_ : ∀ (n : Nat) (c : Cell), h[n]? = some c → ∃ l, io[n]? = some l ∧ CellR G (adr io) H l c
structure Ext (io : List (List Addr)) (H : Hp) (io' : List (List Addr)) (H' : Hp) : Prop where
  root : ∀ n a, adr io n = some a → adr io' n = some a
  own : ∀ a, a ∈ io'.flatten → a ∈ io.flatten ∨ H a = none
  keep : ∀ a o, H a = some o → a ∉ io.flatten → H' a = some o
  trk : ∀ a, H' a = none → H a = none
  tup : Stay H H'

theorem Ext.refl {io : List (List Addr)} {H : Hp} : Ext io H io H := ⟨fun _ _ h => h, fun _ h => .inl h, fun _ _ h _ => h, fun _ h => h, fun _ _ h _ => h⟩
theorem Ext.trans {a b c : List (List Addr)} {H H1 H2 : Hp} (x : Ext a H b H1) (y : Ext b H1 c H2) : Ext a H c H2 where
  root := fun n p h => y.root n p (x.root n p h)
  own := fun p h => by
    rcases y.own p h with z | z
    · exact x.own p z
    · exact .inr (x.trk p z)
  keep := fun p o h n => y.keep p o (x.keep p o h n) fun z => by
    rcases x.own p z with q | q
    · exact n q
    · rw [h] at q; cases q
  trk := fun p h => x.trk p (y.trk p h)
  tup := fun p o h n => y.tup p o (x.tup p o h n) n
theorem RW.ext {K : PySem.W.Frag} {io io' : List (List Addr)} {H H' : Hp} (x : Ext io H io' H') {w : W} {v : V} (r : RW K (adr io) H w v) : RW K (adr io') H' w v := r.mono x.root x.tup
theorem RWs.ext {K : PySem.W.Frag} {io io' : List (List Addr)} {H H' : Hp} (x : Ext io H io' H') {w : List W} {v : List V} (r : RWs K (adr io) H w v) : RWs K (adr io') H' w v := r.mono x.root x.tup

theorem kvR.mono {K : PySem.W.Frag} {ad ad' : Nat → Option Addr} {H H' : Hp} (h1 : ∀ n a, ad n = some a → ad' n = some a) (h2 : Stay H H') {k : List (Int × W)} {k' : List (Key × V)} (r : kvR K ad H k k') : kvR K ad' H' k k' :=
  Paired.mapP r fun _ _ z => ⟨z.1, z.2.mono h1 h2⟩
theorem ObjR.mono {G : Gm} {ad ad' : Nat → Option Addr} {H H' : Hp} {a : Addr} {o : Po} (r : ObjR G ad H a o) (h1 : ∀ n a, ad n = some a → ad' n = some a) (h2 : Stay H H') (h3 : ∀ u, H a = some u → H' a = some u) : ObjR G ad' H' a o := by
  cases o with
  | lst xs => obtain ⟨vs, e, r⟩ := r; exact ⟨vs, h3 _ e, r.mono h1 h2⟩
  | dct kvs => obtain ⟨vs, e, r⟩ := r; exact ⟨vs, h3 _ e, r.mono h1 h2⟩
  | rcd d fs => obtain ⟨vs, e, r, q⟩ := r; exact ⟨vs, h3 _ e, r.mono h1 h2, q⟩
  | ins c fs => obtain ⟨vs, dx, e, r, q⟩ := r; exact ⟨vs, dx, h3 _ e, r.mono h1 h2, q⟩
theorem ObjR.there {G : Gm} {ad : Nat → Option Addr} {H : Hp} {a : Addr} {o : Po} (r : ObjR G ad H a o) : ∃ u, H a = some u ∧ Mt u := by
  cases o with
  | lst xs => obtain ⟨vs, e, r⟩ := r; exact ⟨_, e, trivial⟩
  | dct kvs => obtain ⟨vs, e, r⟩ := r; exact ⟨_, e, trivial⟩
  | rcd d fs => obtain ⟨vs, e, r, q⟩ := r; exact ⟨_, e, trivial⟩
  | ins c fs => obtain ⟨vs, dx, e, r, q⟩ := r; exact ⟨_, e, trivial⟩
theorem BoxR.mono {G : Gm} {H H' : Hp} {l : List Addr} {os : List Po} (r : BoxR G H l os) (h2 : Stay H H') (h3 : ∀ a ∈ l, ∀ u, H a = some u → H' a = some u) : BoxR G H' l os := by
  obtain ⟨e, r⟩ := r
  refine ⟨e, fun i o q => ?_⟩
  obtain ⟨a, ea, ra⟩ := r i o q
  exact ⟨a, ea, ra.mono (fun _ _ z => z) h2 (h3 a (List.mem_of_getElem? ea))⟩
theorem BoxR.there {G : Gm} {H : Hp} {l : List Addr} {os : List Po} (r : BoxR G H l os) {a : Addr} (h : a ∈ l) : ∃ u, H a = some u ∧ Mt u := by
  obtain ⟨e, r⟩ := r
  obtain ⟨i, hi, rfl⟩ := List.getElem_of_mem h
  have hi' : i < os.length := by rw [← e]; exact hi
  obtain ⟨b, eb, rb⟩ := r i os[i] (List.getElem?_eq_getElem hi')
  rw [List.getElem?_eq_getElem hi] at eb
  cases eb
  exact rb.there
theorem CellR.mono {G : Gm} {ad ad' : Nat → Option Addr} {H H' : Hp} {l : List Addr} {c : Cell} (r : CellR G ad H l c) (h1 : ∀ n a, ad n = some a → ad' n = some a) (h2 : Stay H H') (h3 : ∀ a ∈ l, ∀ u, H a = some u → H' a = some u) : CellR G ad' H' l c := by
  cases c with
  | pl o =>
    obtain ⟨a, e, r⟩ := r
    subst e
    exact ⟨a, rfl, r.mono h1 h2 (h3 a List.mem_cons_self)⟩
  | tk T => exact BoxR.mono r h2 h3
  | hd T => exact BoxR.mono r h2 h3
  | fz xs =>
    obtain ⟨a, vs, o, e, h, r⟩ := r
    exact ⟨a, vs, o, e, h2 _ _ h id, r.mono h1 h2⟩
  | tb j q =>
    obtain ⟨ps, e, h, t, k⟩ := r
    subst e
    exact ⟨ps, rfl, h3 _ List.mem_cons_self _ h, t, fun pos cv z => by
      obtain ⟨c, e1, e2⟩ := k pos cv z
      exact ⟨c, e1, h2 c _ e2 (by unfold LamX.CodeO; exact id)⟩⟩
  | lm i w =>
    obtain ⟨f, r, pm, c', ctv, v0, e, e1, e2, e3, q, k⟩ := r
    exact ⟨f, r, pm, c', ctv, v0, e, e1, h2 f _ e2 (by unfold FnO; exact id), h2 c' _ e3 (by unfold LamX.CodeO; exact id), q.mono h1 h2, fun ov z y => let ⟨v, a, b⟩ := k ov z y; ⟨v, a, b.mono h1 h2⟩⟩
  | gone => exact fun a ha => let ⟨u, z⟩ := r a ha; ⟨u, h3 a ha u z⟩
theorem CellR.there {G : Gm} {ad : Nat → Option Addr} {H : Hp} {l : List Addr} {c : Cell} (r : CellR G ad H l c) {a : Addr} (h : a ∈ l) : ∃ u, H a = some u := by
  cases c with
  | pl o =>
    obtain ⟨b, e, r⟩ := r
    subst e
    rw [List.mem_singleton] at h
    subst h
    obtain ⟨u, hu, _⟩ := r.there
    exact ⟨u, hu⟩
  | tk T =>
    obtain ⟨u, hu, _⟩ := BoxR.there r h
    exact ⟨u, hu⟩
  | hd T =>
    obtain ⟨u, hu, _⟩ := BoxR.there r h
    exact ⟨u, hu⟩
  | fz xs =>
    obtain ⟨b, vs, o, e, z, r⟩ := r
    subst e
    rw [List.mem_singleton] at h
    subst h
    exact ⟨_, z⟩
  | tb j q =>
    obtain ⟨ps, e, z, t, k⟩ := r
    subst e
    rw [List.mem_singleton] at h
    subst h
    exact ⟨_, z⟩
  | lm i w =>
    obtain ⟨f, r, pm, c', ctv, v0, e, e1, e2, e3, q, k⟩ := r
    subst e
    rw [List.mem_singleton] at h
    subst h
    exact ⟨_, e2⟩
  | gone => exact r a h

section
variable {G : Gm} {io : List (List Addr)} {h : VH} {H : Hp}
theorem Emb.there (E : Emb G io h H) {a : Addr} (m : a ∈ io.flatten) : ∃ u, H a = some u := by
  obtain ⟨l, hl, ha⟩ := List.mem_flatten.mp m
  obtain ⟨i, hi, rfl⟩ := List.getElem_of_mem hl
  have hi' : i < h.length := by rw [← E.len]; exact hi
  obtain ⟨l', e, r⟩ := E.at_ i h[i] (List.getElem?_eq_getElem hi')
  rw [List.getElem?_eq_getElem hi] at e
  cases e
  exact r.there ha
theorem Emb.fresh (E : Emb G io h H) {p : Addr} (np : H p = none) : p ∉ io.flatten := fun m => by
  obtain ⟨u, e⟩ := E.there m
  rw [np] at e; cases e
/-- the plain object at n -/
theorem Emb.pl (E : Emb G io h H) {n : Nat} {o : Po} (e : h[n]? = some (.pl o)) : ∃ a, io[n]? = some [a] ∧ adr io n = some a ∧ ObjR G (adr io) H a o := by
  obtain ⟨l, e1, a, e2, r⟩ := E.at_ n _ e
  subst e2
  exact ⟨a, e1, by unfold adr; rw [e1]; rfl, r⟩
theorem Emb.ref {K : PySem.W.Frag} (E : Emb G io h H) {n : Nat} {o : Po} {v : V} (e : h[n]? = some (.pl o)) (r : RW K (adr io) H (.ref n) v) : ∃ a, v = .ref a ∧ io[n]? = some [a] ∧ ObjR G (adr io) H a o := by
  obtain ⟨a, e1, e2, q⟩ := E.pl e
  cases r with
  | ref z =>
    rw [e2] at z
    cases z
    exact ⟨a, rfl, e1, q⟩
/-- a tuple laid anew, or any thing that is not of ours -/
theorem Emb.side (E : Emb G io h H) {p : Addr} {o : HO} (np : H p = none) : Emb G io h (upd H p o) ∧ Ext io H io (upd H p o) := by
  have k : ∀ a u, H a = some u → upd H p o a = some u := fun a u e => by rw [upd_ne (ne_of_none e np)]; exact e
  refine ⟨⟨E.len, E.nd, fun n c e => ?_⟩, ⟨fun _ _ e => e, fun _ m => .inl m, fun a u e _ => k a u e, fun a e => ?_, Stay.none np⟩⟩
  · obtain ⟨l, e1, r⟩ := E.at_ n c e
    exact ⟨l, e1, r.mono (fun _ _ z => z) (Stay.none np) fun a _ u z => k a u z⟩
  · by_cases q : a = p
    · subst q; exact np
    · rw [upd_ne q] at e; exact e
theorem adr_app {io : List (List Addr)} {l : List Addr} {n : Nat} {a : Addr} (e : adr io n = some a) : adr (io ++ [l]) n = some a := by
  unfold adr at e ⊢
  by_cases q : n < io.length
  · rw [List.getElem?_append_left q]; exact e
  · rw [List.getElem?_eq_none (by omega)] at e; cases e
theorem adr_new {io : List (List Addr)} {a : Addr} {l : List Addr} : adr (io ++ [a :: l]) io.length = some a := by
  unfold adr
  rw [List.getElem?_append_right (Nat.le_refl _)]
  simp
/-- a new object of ours -/
theorem Emb.alloc (E : Emb G io h H) {p : Addr} {o : HO} {q : Po} (np : H p = none) (nt : Mt o) (r : ObjR G (adr (io ++ [[p]])) (upd H p o) p q) : Emb G (io ++ [[p]]) (h ++ [.pl q]) (upd H p o) ∧ Ext io H (io ++ [[p]]) (upd H p o) := by
  have k : ∀ a u, H a = some u → upd H p o a = some u := fun a u e => by rw [upd_ne (ne_of_none e np)]; exact e
  refine ⟨⟨by simp [E.len], ?_, fun n c e => ?_⟩, ⟨fun _ _ e => adr_app e, fun a m => ?_, fun a u e _ => k a u e, fun a e => ?_, Stay.none np⟩⟩
  · rw [List.flatten_append, List.nodup_append]
    refine ⟨E.nd, by simp, fun a ha b hb => ?_⟩
    simp at hb
    subst hb
    intro z
    subst z
    exact E.fresh np ha
  · by_cases q : n < h.length
    · rw [List.getElem?_append_left q] at e
      obtain ⟨l, e1, r⟩ := E.at_ n c e
      refine ⟨l, by rw [List.getElem?_append_left (by rw [E.len]; exact q)]; exact e1, r.mono (fun _ _ z => adr_app z) (Stay.none np) fun a _ u z => k a u z⟩
    · have hn : n = h.length := by
        have := (List.getElem?_eq_some_iff.mp e).1
        simp at this
        omega
      subst hn
      rw [List.getElem?_append_right (Nat.le_refl _)] at e
      simp at e
      subst e
      refine ⟨[p], ?_, p, rfl, r⟩
      rw [← E.len, List.getElem?_append_right (Nat.le_refl _)]
      simp
  · rw [List.flatten_append, List.mem_append] at m
    rcases m with m | m
    · exact .inl m
    · simp at m; subst m; exact .inr np
  · by_cases q : a = p
    · subst q; exact np
    · rw [upd_ne q] at e; exact e
theorem mem_flat {io : List (List Addr)} {n : Nat} {l : List Addr} {a : Addr} (e : io[n]? = some l) (h : a ∈ l) : a ∈ io.flatten := List.mem_flatten.mpr ⟨l, List.mem_of_getElem? e, h⟩
theorem nodup_flat_ne : ∀ {io : List (List Addr)} (nd : io.flatten.Nodup) {n m : Nat} {l l' : List Addr} (e : io[n]? = some l) (e' : io[m]? = some l') (ne : n ≠ m) {a : Addr} (h : a ∈ l) (h' : a ∈ l'), False
  | [], _, _, _, _, _, e, _, _, _, _, _ => by simp at e
  | x :: r, nd, 0, 0, _, _, _, _, ne, _, _, _ => ne rfl
  | x :: r, nd, 0, m + 1, l, l', e, e', ne, a, h, h' => by
    rw [List.flatten_cons, List.nodup_append] at nd
    simp at e e'
    subst e
    exact nd.2.2 a h a (mem_flat e' h') rfl
  | x :: r, nd, n + 1, 0, l, l', e, e', ne, a, h, h' => by
    rw [List.flatten_cons, List.nodup_append] at nd
    simp at e e'
    subst e'
    exact nd.2.2 a h' a (mem_flat e h) rfl
  | x :: r, nd, n + 1, m + 1, l, l', e, e', ne, a, h, h' => by
    rw [List.flatten_cons, List.nodup_append] at nd
    exact nodup_flat_ne (io := r) nd.2.1 (n := n) (m := m) (by simpa using e) (by simpa using e') (fun z => ne (by rw [z])) h h'
/-- an object of ours is changed -/
theorem Emb.write (E : Emb G io h H) {n : Nat} {o q : Po} {a : Addr} {u : HO} (e : h[n]? = some (.pl o)) (ei : io[n]? = some [a]) (nt : Mt u) (r : ObjR G (adr io) (upd H a u) a q) : Emb G io (h.set n (.pl q)) (upd H a u) ∧ Ext io H io (upd H a u) := by
  have hm : a ∈ io.flatten := mem_flat ei List.mem_cons_self
  have th : ∃ u, H a = some u ∧ Mt u := by
    obtain ⟨b, eb, _, rb⟩ := E.pl e
    rw [ei] at eb
    cases eb
    exact rb.there
  obtain ⟨u0, hu0, nt0⟩ := th
  have kt : Stay H (upd H a u) := Stay.some hu0 nt0
  refine ⟨⟨by simp [E.len], E.nd, fun m c em => ?_⟩, ⟨fun _ _ e => e, fun _ m => .inl m, fun b v e nm => ?_, fun b e => ?_, kt⟩⟩
  · by_cases q : m = n
    · subst q
      have hl : m < h.length := (List.getElem?_eq_some_iff.mp e).1
      rw [List.getElem?_set_self hl] at em
      cases em
      exact ⟨[a], ei, a, rfl, r⟩
    · rw [List.getElem?_set_ne (Ne.symm q)] at em
      obtain ⟨l, e1, rl⟩ := E.at_ m c em
      refine ⟨l, e1, rl.mono (fun _ _ z => z) kt fun b hb v z => ?_⟩
      rw [upd_ne]; exact z
      intro y; subst y
      exact nodup_flat_ne E.nd e1 ei q hb List.mem_cons_self
  · rw [upd_ne]; exact e
    intro y; subst y; exact nm hm
  · by_cases q : b = a
    · subst q; rw [upd_same] at e; cases e
    · rw [upd_ne q] at e; exact e
end

/-! ### frames -/
def RSt (G : Gm) (ad : Nat → Option Addr) (H : Hp) (f : Fm) (sr : L2.St) : Prop := f.length = sr.length ∧ (∀ (i : Nat) (w : W), f[i]? = some (some w) → ∃ v, sr[i]? = some (some v) ∧ RW G.K ad H w v) ∧ ∀ (i : Nat) (a : Addr), G.pin = some (i, a) → sr[i]? = some (some (.ref a))
theorem RSt.ext {G : Gm} {io io' : List (List Addr)} {H H' : Hp} (x : Ext io H io' H') {f : Fm} {sr : L2.St} (r : RSt G (adr io) H f sr) : RSt G (adr io') H' f sr := ⟨r.1, fun i w e => let ⟨v, e', q⟩ := r.2.1 i w e; ⟨v, e', q.ext x⟩, r.2.2⟩
theorem RSt.set {G : Gm} {ad : Nat → Option Addr} {H : Hp} {f : Fm} {sr : L2.St} (r : RSt G ad H f sr) {i : Nat} {w : W} {v : V} (fr : G.Free i) (q : RW G.K ad H w v) : RSt G ad H (f.set i (some w)) (sr.set i (some v)) := by
  refine ⟨by simp [r.1], fun j y e => ?_, fun j a e => ?_⟩
  · by_cases z : i = j
    · subst z
      have hl : i < f.length := by have := (List.getElem?_eq_some_iff.mp e).1; simpa using this
      rw [List.getElem?_set_self hl] at e
      cases e
      exact ⟨v, List.getElem?_set_self (by rw [← r.1]; exact hl), q⟩
    · rw [List.getElem?_set_ne z] at e ⊢
      exact r.2.1 j y e
  · have z : i ≠ j := fun z => fr a (by rw [z]; exact e)
    rw [List.getElem?_set_ne z]
    exact r.2.2 j a e
@[simp] def startV (n : Nat) (ws : List W) : Fm := ws.map some ++ List.replicate (n - ws.length) none
theorem start_rel {G : Gm} {ad : Nat → Option Addr} {H : Hp} {N : List Str} {ws : List W} {vs : List V} (np : G.pin = none) (r : RWs G.K ad H ws vs) : RSt G ad H (startV N.length ws) (L2.start N vs) := by
  unfold startV L2.start
  refine ⟨by simp [r.length], fun i w e => ?_, fun i a e => by rw [np] at e; cases e⟩
  by_cases q : i < ws.length
  · rw [List.getElem?_append_left (by simpa using q), List.getElem?_map] at e
    cases z : ws[i]? with
    | none => rw [z] at e; cases e
    | some y =>
      rw [z] at e
      cases e
      obtain ⟨v, hv, rv⟩ := r.get z
      refine ⟨v, ?_, rv⟩
      have hl : i < vs.length := by rw [← r.length]; exact q
      rw [List.getElem?_append_left (by simpa using hl), List.getElem?_map, hv]
      rfl
  · rw [List.getElem?_append_right (by simpa using q), List.getElem?_replicate] at e
    split at e <;> cases e
end Tw

namespace Tw
open PySem PySem.Spec PyProof.Rows L2

/-! ### results, and the canonical reading of a function -/
inductive Rs (A : Type) where
  | ok (a : A) | ex (c : Nat)
abbrev FE := Fm → VH → Option (Rs W × VH)
abbrev FA := Fm → VH → Option (Rs (List W) × VH)
abbrev FT := Fm → VH → Option (Rs Bool × VH)
abbrev FO := Fm → VH → Option (Rs (Option Int) × VH)
abbrev Fn := List W → VH → Option (Rs W × VH)
@[simp] def bindM {A B : Type} (m : Option (Rs A × VH)) (k : A → VH → Option (Rs B × VH)) : Option (Rs B × VH) := match m with
  | none => none
  | some (.ok a, h) => k a h
  | some (.ex c, h) => some (.ex c, h)
@[simp] def retM {A : Type} (m : Option (A × VH)) : Option (Rs A × VH) := match m with
  | none => none
  | some (a, h) => some (.ok a, h)
theorem bindM_cases {A B : Type} {m : Option (Rs A × VH)} {k : A → VH → Option (Rs B × VH)} {r : Rs B} {h' : VH} (e : bindM m k = some (r, h')) : (∃ a h1, m = some (.ok a, h1) ∧ k a h1 = some (r, h')) ∨ ∃ c, m = some (.ex c, h') ∧ r = .ex c := by
  unfold bindM at e
  split at e
  · cases e
  · exact .inl ⟨_, _, rfl, e⟩
  · cases e; exact .inr ⟨_, rfl, rfl⟩
theorem retM_cases {A : Type} {m : Option (A × VH)} {r : Rs A} {h' : VH} (e : retM m = some (r, h')) : ∃ a, m = some (a, h') ∧ r = .ok a := by
  unfold retM at e
  split at e
  · cases e
  · cases e; exact ⟨_, rfl, rfl⟩

/-- what is wanted behind: of the value, of the exception -/
def Post (G : Gm) {A B : Type} (Wx : WX) (rel : (Nat → Option Addr) → Hp → A → B → Prop) (io : List (List Addr)) (H : Hp) (sr : L2.St) (r : Rs A) (h' : VH) (Q : B → Hp → Prop) : Prop :=
  ∀ io' H', Ext io H io' H' → Emb G io' h' H' → match r with
    | .ok a => ∀ v, rel (adr io') H' a v → Q v H'
    | .ex c => Wx (.ref (G.C c)) none sr H'
theorem Post.ext {G : Gm} {A B : Type} {Wx : WX} {rel : (Nat → Option Addr) → Hp → A → B → Prop} {io io1 : List (List Addr)} {H H1 : Hp} {sr : L2.St} {r : Rs A} {h' : VH} {Q : B → Hp → Prop} (p : Post G Wx rel io H sr r h' Q) (x : Ext io H io1 H1) : Post G Wx rel io1 H1 sr r h' Q :=
  fun io' H' y E => p io' H' (x.trans y) E
def cG (G : Gm) (Wx : WX) {A B : Type} (rel : (Nat → Option Addr) → Hp → A → B → Prop) (f : Fm → VH → Option (Rs A × VH)) : L2.St → Hp → (B → Hp → Prop) → Prop := fun sr H Q =>
  ∃ fm h r h' io, f fm h = some (r, h') ∧ Emb G io h H ∧ RSt G (adr io) H fm sr ∧ Post G Wx rel io H sr r h' Q
abbrev relB : (Nat → Option Addr) → Hp → Bool → Bool → Prop := fun _ _ a b => a = b
abbrev relO : (Nat → Option Addr) → Hp → Option Int → Option Int → Prop := fun _ _ a b => a = b
abbrev cE (G : Gm) (Wx : WX) (f : FE) : TE := cG G Wx (RW G.K) f
abbrev cA (G : Gm) (Wx : WX) (f : FA) : TA := cG G Wx (RWs G.K) f
abbrev cT (G : Gm) (Wx : WX) (f : FT) : TT := cG G Wx relB f
abbrev cO (G : Gm) (Wx : WX) (f : FO) : TO := cG G Wx relO f
abbrev SE (G : Gm) (X : Cx) (Wx : WX) (e : Expr) (f : FE) : Prop := PE X e (cE G Wx f)
abbrev SA (G : Gm) (X : Cx) (Wx : WX) (e : List Expr) (f : FA) : Prop := PA X e (cA G Wx f)
abbrev ST (G : Gm) (X : Cx) (Wx : WX) (e : Expr) (f : FT) : Prop := PT X e (cT G Wx f)
abbrev SO (G : Gm) (X : Cx) (Wx : WX) (e : Option Expr) (f : FO) : Prop := PO X e (cO G Wx f)

section
variable {G : Gm} {X : Cx} {Wx : WX}
theorem PEw {e : Expr} {t t' : TE} (p : PE X e t) (k : ∀ s H Q, t' s H Q → t s H Q) : PE X e t' := ⟨fun pins s σ H Q I h => p.run pins s σ H Q I (k _ _ _ h)⟩
theorem PTw {e : Expr} {t t' : TT} (p : PT X e t) (k : ∀ s H Q, t' s H Q → t s H Q) : PT X e t' := ⟨fun pins s σ H Q I h => p.run pins s σ H Q I (k _ _ _ h)⟩
theorem PWw {e : Expr} {t t' : TT} (p : PW X e t) (k : ∀ s H Q, t' s H Q → t s H Q) : PW X e t' := ⟨fun wh pins s σ H Q I h => p.run wh pins s σ H Q I (k _ _ _ h)⟩
theorem PAw {e : List Expr} {t t' : TA} (p : PA X e t) (k : ∀ s H Q, t' s H Q → t s H Q) : PA X e t' := ⟨fun pos pins s σ H Q I h => p.run pos pins s σ H Q I (k _ _ _ h)⟩
theorem PCw {op : CmpOp} {a b : Expr} {t t' : TE} (p : PC X op a b t) (k : ∀ s H Q, t' s H Q → t s H Q) : PC X op a b t' := ⟨fun pins s σ H Q I h => p.run pins s σ H Q I (k _ _ _ h)⟩
theorem PSw {e : Stmt} {t t' : TS} (p : PS X e t) (k : ∀ D s H, t' D s H → t D s H) : PS X e t' := ⟨fun pins s σ H D I h => p.run pins s σ H D I (k _ _ _ h)⟩
theorem PSsw {e : List Stmt} {t t' : TS} (p : PSs X e t) (k : ∀ D s H, t' D s H → t D s H) : PSs X e t' := ⟨fun pins s σ H D I h => p.run pins s σ H D I (k _ _ _ h)⟩

/-- one part is asked, then the rest -/
theorem cG_step {A A' B B' : Type} {rel : (Nat → Option Addr) → Hp → A → B → Prop} {rel' : (Nat → Option Addr) → Hp → A' → B' → Prop} {f : Fm → VH → Option (Rs A × VH)} {k : A → VH → Option (Rs A' × VH)} {fm : Fm} {h h' : VH} {r : Rs A'} {io : List (List Addr)} {H : Hp} {sr : L2.St}
    {Q : B' → Hp → Prop} {R : B → Hp → Prop} (E : Emb G io h H) (S : RSt G (adr io) H fm sr) (e : bindM (f fm h) k = some (r, h')) (p : Post G Wx rel' io H sr r h' Q)
    (hk : ∀ a h1, k a h1 = some (r, h') → ∀ io1 H1 v, Ext io H io1 H1 → Emb G io1 h1 H1 → rel (adr io1) H1 a v → R v H1) : cG G Wx rel f sr H R := by
  rcases bindM_cases e with ⟨a, h1, e1, e2⟩ | ⟨c, e1, e2⟩
  · exact ⟨fm, h, _, h1, io, e1, E, S, fun io1 H1 x E1 v rv => hk a h1 e2 io1 H1 v x E1 rv⟩
  · subst e2
    exact ⟨fm, h, _, h', io, e1, E, S, fun io1 H1 x E1 => p io1 H1 x E1⟩
/-- the end of a chain -/
theorem cG_last {A B : Type} {rel : (Nat → Option Addr) → Hp → A → B → Prop} {f : Fm → VH → Option (Rs A × VH)} {fm : Fm} {h h' : VH} {r : Rs A} {io : List (List Addr)} {H : Hp} {sr : L2.St} {Q : B → Hp → Prop} (E : Emb G io h H) (S : RSt G (adr io) H fm sr) (e : f fm h = some (r, h')) (p : Post G Wx rel io H sr r h' Q) :
    cG G Wx rel f sr H Q := ⟨fm, h, r, h', io, e, E, S, p⟩
/-- a pure end -/
theorem Post.now {A B : Type} {rel : (Nat → Option Addr) → Hp → A → B → Prop} {io : List (List Addr)} {H : Hp} {sr : L2.St} {a : A} {h : VH} {Q : B → Hp → Prop} (p : Post G Wx rel io H sr (.ok a) h Q) (E : Emb G io h H) {v : B} (r : rel (adr io) H a v) : Q v H := p io H Ext.refl E v r

/-! ### names and constants -/
@[simp] def fVar (i : Nat) : FE := fun fm h => match fm[i]? with
  | some (some w) => some (.ok w, h)
  | _ => none
@[simp] def fC (w : W) : FE := fun _ h => some (.ok w, h)
theorem fVar_eq {i : Nat} {fm : Fm} {h h' : VH} {r : Rs W} (e : fVar i fm h = some (r, h')) : ∃ w, fm[i]? = some (some w) ∧ r = .ok w ∧ h' = h := by
  unfold fVar at e
  split at e
  · rename_i w hw
    cases e
    exact ⟨w, hw, rfl, rfl⟩
  · cases e
theorem se_var (i : Nat) {x : Str} {pos : Pos} (hN : X.N[i]? = some x := by rfl) (hv : Vis X.env.scope x := by first | exact Or.inl rfl | exact Or.inr (Or.inl rfl) | exact Or.inr (Or.inr rfl)) (hd : (x == ("__debug__" : Str)) = false := by decide)
    (hcd : (x == ("__classdict__" : Str)) = false := by decide) : SE G X Wx (.Name x pos) (fVar i) := by
  refine PEw (pe_var hN hv hd hcd) fun s H Q q => ?_
  obtain ⟨fm, h, r, h', io, e, E, S, p⟩ := q
  obtain ⟨w, e1, rfl, rfl⟩ := fVar_eq e
  obtain ⟨v, e2, rv⟩ := S.2.1 i w e1
  exact ⟨v, e2, p.now E rv⟩
theorem cE_const {w : W} {v : V} (hv : ∀ ad H, RW G.K ad H w v) {s : L2.St} {H : Hp} {Q : VK} (q : cE G Wx (fC w) s H Q) : tC v s H Q := by
  obtain ⟨fm, h, r, h', io, e, E, S, p⟩ := q
  unfold fC at e
  cases e
  exact p.now E (hv _ _)
theorem se_int {i j pos} : SE G X Wx (.Constant (.int i) j pos) (fC (.int i)) := PEw pe_int fun _ _ _ q => cE_const (fun _ _ => .int i) q
theorem se_bl {i j pos} : SE G X Wx (.Constant (.bool i) j pos) (fC (.bl i)) := PEw pe_bl fun _ _ _ q => cE_const (fun _ _ => .bl i) q
theorem se_str {i j pos} : SE G X Wx (.Constant (.str i) j pos) (fC (.str i)) := PEw pe_str fun _ _ _ q => cE_const (fun _ _ => .str i) q
theorem se_non {j pos} : SE G X Wx (.Constant .none j pos) (fC .non) := PEw pe_non fun _ _ _ q => cE_const (fun _ _ => .non) q
/-- a module's number -/
theorem se_globI {x : Str} {i : Int} {t : Tok} {pos : Pos} (hg : Gl X x) (hm : X.mg x = some (.int i t)) (hd : (x == ("__debug__" : Str)) = false := by decide) : SE G X Wx (.Name x pos) (fC (.int i)) :=
  PEw (pe_glob (v := .int i) hg hm ⟨_, rfl⟩ hd) fun _ _ _ q => cE_const (fun _ _ => .int i) q

/-! ### operators by values -/
abbrev G2 := W → W → VH → Option (W × VH)
abbrev G1 := W → VH → Option (W × VH)
/-- the wish behind an operation without exceptions -/
def PostW (G : Gm) (io : List (List Addr)) (H : Hp) (w : W) (h' : VH) (Q : VK) : Prop := ∀ io' H', Ext io H io' H' → Emb G io' h' H' → ∀ v, RW G.K (adr io') H' w v → Q v H'
def Sim2 (G : Gm) (r : R2) (g : G2) : Prop := ∀ a b h w h', g a b h = some (w, h') → ∀ io H x y Q, Emb G io h H → RW G.K (adr io) H a x → RW G.K (adr io) H b y → PostW G io H w h' Q → r x y H Q
def Sim1 (G : Gm) (r : V → Hp → VK → Prop) (g : G1) : Prop := ∀ a h w h', g a h = some (w, h') → ∀ io H x Q, Emb G io h H → RW G.K (adr io) H a x → PostW G io H w h' Q → r x H Q
def SimA (G : Gm) (r : List V → Hp → VK → Prop) (g : List W → VH → Option (W × VH)) : Prop := ∀ a h w h', g a h = some (w, h') → ∀ io H x Q, Emb G io h H → RWs G.K (adr io) H a x → PostW G io H w h' Q → r x H Q
@[simp] def fBin (g : G2) (fa fb : FE) : FE := fun fm h => bindM (fa fm h) fun a h1 => bindM (fb fm h1) fun b h2 => retM (g a b h2)
@[simp] def fUn (g : G1) (fa : FE) : FE := fun fm h => bindM (fa fm h) fun a h1 => retM (g a h1)
theorem op_read {r : R2} {g : G2} {fa fb : FE} (sm : Sim2 G r g) {s : L2.St} {H : Hp} {Q : VK} (q : cE G Wx (fBin g fa fb) s H Q) : tOp r (cE G Wx fa) (cE G Wx fb) s H Q := by
  obtain ⟨fm, h, r, h', io, e, E, S, p⟩ := q
  refine cG_step E S e p fun a h1 e1 io1 H1 v x1 E1 rv => ?_
  refine cG_step E1 (S.ext x1) e1 (p.ext x1) fun b h2 e2 io2 H2 u x2 E2 ru => ?_
  obtain ⟨w, e3, rfl⟩ := retM_cases e2
  exact sm _ _ _ _ _ e3 io2 H2 v u Q E2 (rv.ext x2) ru fun io' H' x' E' => p io' H' ((x1.trans x2).trans x') E'
theorem un_read {r : V → Hp → VK → Prop} {g : G1} {fa : FE} (sm : Sim1 G r g) {s : L2.St} {H : Hp} {Q : VK} (q : cE G Wx (fUn g fa) s H Q) : tUn r (cE G Wx fa) s H Q := by
  obtain ⟨fm, h, r, h', io, e, E, S, p⟩ := q
  refine cG_step E S e p fun a h1 e1 io1 H1 v x1 E1 rv => ?_
  obtain ⟨w, e3, rfl⟩ := retM_cases e1
  exact sm _ _ _ _ e3 io1 H1 v Q E1 rv fun io' H' x' E' => p io' H' (x1.trans x') E'
variable {a b c : Expr} {fa fb fc : FE} {pos : Pos}
theorem se_op {op : Operator} {r : R2} {g : G2} (ho : OpR X (binaryOp op) r) (sm : Sim2 G r g) (ha : SE G X Wx a fa) (hb : SE G X Wx b fb) : SE G X Wx (.BinOp a op b pos) (fBin g fa fb) :=
  PEw (pe_op ho ha hb) fun _ _ _ q => op_read sm q
theorem se_un {op : UnaryOp} {r : V → Hp → VK → Prop} {g : G1} (ho : UnR X (unaryOp op) r) (sm : Sim1 G r g) (ha : SE G X Wx a fa) : SE G X Wx (.UnaryOp op a pos) (fUn g fa) :=
  PEw (pe_un ho ha) fun _ _ _ q => un_read sm q
theorem se_cmp {op : CmpOp} {r : R2} {g : G2} (ho : OpR X (compareOp op) r) (sm : Sim2 G r g) (ha : SE G X Wx a fa) (hb : SE G X Wx b fb) (hm : behindInMarks op b = false := by first | exact nomark _ | rfl) : SE G X Wx (.Compare a [op] [b] pos) (fBin g fa fb) :=
  PEw (pe_cmpR ho ha hb hm) fun _ _ _ q => op_read sm q
theorem se_ix {r : R2} {g : G2} (ho : IxR X r) (sm : Sim2 G r g) (ha : SE G X Wx a fa) (hb : SE G X Wx b fb) (hs : PlainIx b := by exact fun _ _ => rfl) : SE G X Wx (.Subscript a b pos) (fBin g fa fb) :=
  PEw (pe_ix ho ha hb hs) fun _ _ _ q => op_read sm q
/-! ### tests -/
@[simp] def fB (f : FE) : FT := fun fm h => bindM (f fm h) fun w h1 => match w with
  | .bl b => some (.ok b, h1)
  | _ => none
theorem B_read {f : FE} {s : L2.St} {H : Hp} {Q : Bool → Hp → Prop} (q : cT G Wx (fB f) s H Q) : cE G Wx f s H fun x H1 => ∃ k, x = .bl k ∧ Q k H1 := by
  obtain ⟨fm, h, r, h', io, e, E, S, p⟩ := q
  refine cG_step E S e p fun a h1 e1 io1 H1 v x1 E1 rv => ?_
  split at e1
  · cases e1
    cases rv
    exact ⟨_, rfl, p io1 H1 x1 E1 _ rfl⟩
  · cases e1
theorem st_val (ha : SE G X Wx a fa) (he : ∀ whole, isTrue a X.env whole = (do let v ← whole; standAt a.pos; holding [v] (truthy v)) := by intro _; rfl) : ST G X Wx a (fB fa) :=
  PTw (pt_val ha he) fun _ _ _ q => B_read q
theorem st_cmp {op : CmpOp} {r : R2} {g : G2} (ho : OpR X (compareOp op) r) (sm : Sim2 G r g) (ha : SE G X Wx a fa) (hb : SE G X Wx b fb) (hm : behindInMarks op b = false := by first | exact nomark _ | rfl) : ST G X Wx (.Compare a [op] [b] pos) (fB (fBin g fa fb)) :=
  PTw (pt_cmpR ho ha hb hm) fun _ _ _ q => op_read sm (B_read q)
theorem st_pc {op : CmpOp} {f : FE} (h : PC X op a b (cE G Wx f)) (hm : behindInMarks op b = false := by first | exact nobehind _ (by decide) (by decide) | rfl) : ST G X Wx (.Compare a [op] [b] pos) (fB f) :=
  PTw (pt_cmp h hm) fun _ _ _ q => B_read q
theorem se_pc {op : CmpOp} {f : FE} (h : PC X op a b (cE G Wx f)) (hm : behindInMarks op b = false := by first | exact nobehind _ (by decide) (by decide) | rfl) : SE G X Wx (.Compare a [op] [b] pos) f := pe_cmp h hm
@[simp] def fNotT (f : FT) : FT := fun fm h => bindM (f fm h) fun b h1 => some (.ok (!b), h1)
@[simp] def fAndT (f g : FT) : FT := fun fm h => bindM (f fm h) fun b h1 => if b = true then g fm h1 else some (.ok false, h1)
@[simp] def fOrT (f g : FT) : FT := fun fm h => bindM (f fm h) fun b h1 => if b = true then some (.ok true, h1) else g fm h1
variable {ga gb : FT} {rest : List Expr}
theorem st_not (ha : ST G X Wx a ga) : ST G X Wx (.UnaryOp .Not a pos) (fNotT ga) := by
  refine PTw (pt_not ha) fun s H Q q => ?_
  obtain ⟨fm, h, r, h', io, e, E, S, p⟩ := q
  refine cG_step E S e p fun a h1 e1 io1 H1 v x1 E1 rv => ?_
  cases e1
  cases (show a = v from rv)
  exact p io1 H1 x1 E1 _ rfl
abbrev SW (G : Gm) (X : Cx) (Wx : WX) (e : Expr) (f : FT) : Prop := PW X e (cT G Wx f)
theorem and_read {s : L2.St} {H : Hp} {Q : Bool → Hp → Prop} (q : cT G Wx (fAndT ga gb) s H Q) : tAnd (cT G Wx ga) (cT G Wx gb) s H Q := by
  obtain ⟨fm, h, r, h', io, e, E, S, p⟩ := q
  refine cG_step E S e p fun a h1 e1 io1 H1 v x1 E1 rv => ?_
  cases (show a = v from rv)
  cases a with
  | true => exact cG_last E1 (S.ext x1) e1 (p.ext x1)
  | false => cases e1; exact p io1 H1 x1 E1 _ rfl
theorem or_read {s : L2.St} {H : Hp} {Q : Bool → Hp → Prop} (q : cT G Wx (fOrT ga gb) s H Q) : tOr (cT G Wx ga) (cT G Wx gb) s H Q := by
  obtain ⟨fm, h, r, h', io, e, E, S, p⟩ := q
  refine cG_step E S e p fun a h1 e1 io1 H1 v x1 E1 rv => ?_
  cases (show a = v from rv)
  cases a with
  | false => exact cG_last E1 (S.ext x1) e1 (p.ext x1)
  | true => cases e1; exact p io1 H1 x1 E1 _ rfl
theorem sw_and1 (ha : ST G X Wx a ga) : SW G X Wx (.BoolOp .And [a] pos) ga := pw_and1 ha
theorem sw_or1 (ha : ST G X Wx a ga) : SW G X Wx (.BoolOp .Or [a] pos) ga := pw_or1 ha
theorem sw_and (ha : ST G X Wx a ga) (hb : SW G X Wx (.BoolOp .And (b :: rest) pos) gb) : SW G X Wx (.BoolOp .And (a :: b :: rest) pos) (fAndT ga gb) := PWw (pw_and ha hb) fun _ _ _ q => and_read q
theorem sw_or (ha : ST G X Wx a ga) (hb : SW G X Wx (.BoolOp .Or (b :: rest) pos) gb) : SW G X Wx (.BoolOp .Or (a :: b :: rest) pos) (fOrT ga gb) := PWw (pw_or ha hb) fun _ _ _ q => or_read q
end
end Tw

namespace Tw
open PySem PySem.Spec PyProof.Rows L2

section
variable {G : Gm} {X : Cx} {Wx : WX} {io : List (List Addr)} {h : VH} {H : Hp} {Q : VK}
/-! ### ends -/
theorem PostW.here {w : W} {v : V} (p : PostW G io H w h Q) (E : Emb G io h H) (r : RW G.K (adr io) H w v) : Q v H := p io H Ext.refl E v r
theorem PostW.new {q : Po} {p : Addr} {o : HO} (z : PostW G io H (.ref h.length) (h ++ [.pl q]) Q) (E : Emb G io h H) (np : H p = none) (nt : Mt o) (r : ObjR G (adr (io ++ [[p]])) (upd H p o) p q) : Q (.ref p) (upd H p o) := by
  obtain ⟨E1, x1⟩ := E.alloc np nt r
  refine z _ _ x1 E1 _ (.ref ?_)
  rw [← E.len]
  exact adr_new
theorem RWs.side {K : PySem.W.Frag} {xs : List W} {vs : List V} {p : Addr} {o : HO} {ad ad' : Nat → Option Addr} (r : RWs K ad H xs vs) (np : H p = none) (h1 : ∀ n a, ad n = some a → ad' n = some a) : RWs K ad' (upd H p o) xs vs :=
  r.mono h1 (Stay.none np)
theorem PostW.newL {xs : List W} {vs : List V} {p : Addr} (z : PostW G io H (.ref h.length) (h ++ [.pl (.lst xs)]) Q) (E : Emb G io h H) (np : H p = none) (r : RWs G.K (adr io) H xs vs) : Q (.ref p) (upd H p (.lst vs)) :=
  z.new E np trivial ⟨vs, upd_same, r.side np fun _ _ e => adr_app e⟩
theorem PostW.tup {xs : List W} {vs : List V} {p : Addr} (z : PostW G io H (.tup xs) h Q) (E : Emb G io h H) (np : H p = none) (r : RWs G.K (adr io) H xs vs) : Q (.ref p) (upd H p (.tup vs)) := by
  obtain ⟨E1, x1⟩ := E.side (o := .tup vs) np
  exact z _ _ x1 E1 _ (.tup upd_same (r.ext x1))
/-- a changed object: what is related stays related -/
theorem RWs.wr {K : PySem.W.Frag} {xs : List W} {vs : List V} {a : Addr} {u o : HO} {ad : Nat → Option Addr} (r : RWs K ad H xs vs) (e : H a = some o) (nt : Mt o) : RWs K ad (upd H a u) xs vs :=
  r.mono (fun _ _ z => z) (Stay.some e nt)
theorem RW.wr {K : PySem.W.Frag} {x : W} {v : V} {a : Addr} {u o : HO} {ad : Nat → Option Addr} (r : RW K ad H x v) (e : H a = some o) (nt : Mt o) : RW K ad (upd H a u) x v :=
  r.mono (fun _ _ z => z) (Stay.some e nt)
theorem PostW.write {n : Nat} {o q : Po} {a : Addr} {u : HO} {w : W} {v : V} (z : PostW G io H w (h.set n (.pl q)) Q) (E : Emb G io h H) (e : h[n]? = some (.pl o)) (ei : io[n]? = some [a]) (nt : Mt u) (r : ObjR G (adr io) (upd H a u) a q) (rw_ : RW G.K (adr io) H w v) : Q v (upd H a u) := by
  obtain ⟨E1, x1⟩ := E.write e ei nt r
  exact z _ _ x1 E1 _ (rw_.ext x1)
/-- the list at an address, to be read -/
@[simp] def lstAt (h : VH) : W → Option (List W)
  | .rl xs => some xs
  | .ref n => match h[n]? with
    | some (.pl (.lst xs)) => some xs
    | some (.fz xs) => some xs
    | _ => none
  | _ => none
theorem lstAt_r {w : W} {v : V} {xs : List W} (E : Emb G io h H) (e : lstAt h w = some xs) (r : RW G.K (adr io) H w v) : ∃ a vs, v = .ref a ∧ SqL G.K H a vs ∧ RWs G.K (adr io) H xs vs := by
  unfold lstAt at e
  split at e
  · cases e
    cases r with
    | rl ha hr => exact ⟨_, _, rfl, ha.sq, hr⟩
  · rename_i n
    split at e
    · rename_i ys hn
      cases e
      obtain ⟨a, rfl, _, vs, hv, rv⟩ := E.ref hn r
      exact ⟨a, vs, rfl, .inl (.inl hv), rv⟩
    · rename_i ys hn
      cases e
      obtain ⟨l, e1, a, vs, o, e2, hv, rv⟩ := E.at_ n _ hn
      subst e2
      cases r with
      | ref z =>
        unfold adr at z
        rw [e1] at z
        cases z
        exact ⟨a, vs, rfl, .inl (.inr ⟨o, hv⟩), rv⟩
    · cases e
  · cases e
/-- a list of our own, to be changed -/
@[simp] def lstOf (h : VH) : W → Option (Nat × List W)
  | .ref n => match h[n]? with
    | some (.pl (.lst xs)) => some (n, xs)
    | _ => none
  | _ => none
theorem lstOf_r {w : W} {v : V} {n : Nat} {xs : List W} (E : Emb G io h H) (e : lstOf h w = some (n, xs)) (r : RW G.K (adr io) H w v) : ∃ a vs, v = .ref a ∧ h[n]? = some (.pl (.lst xs)) ∧ io[n]? = some [a] ∧ H a = some (.lst vs) ∧ RWs G.K (adr io) H xs vs := by
  unfold lstOf at e
  split at e
  · rename_i m
    split at e
    · rename_i ys hn
      cases e
      obtain ⟨a, rfl, ei, vs, hv, rv⟩ := E.ref hn r
      exact ⟨a, vs, rfl, hn, ei, hv, rv⟩
    · cases e
  · cases e

/-! ### arithmetic -/
@[simp] def gAdd : G2 := fun a b h => match a, b with
  | .int i, .int j => some (.int (i + j), h)
  | .str i, .str j => if i.length + j.length ≤ sizeLine then some (.str (i ++ j), h) else none
  | .tup i, .tup j => if i ≠ [] ∧ i.length + j.length ≤ sizeLine then some (.tup (i ++ j), h) else none
  | .ref n, .ref m => match lstOf h (.ref n), lstOf h (.ref m) with
    | some (_, xs), some (_, ys) => if xs.length + ys.length ≤ sizeLine then some (.ref h.length, h ++ [.pl (.lst (xs ++ ys))]) else none
    | _, _ => none
  | _, _ => none
def rAddW (K : PySem.W.Frag) : R2 := fun x y H Q => (rI0 (fun i j => V.int (i + j))) x y H Q ∨ (∃ i j, x = .str i ∧ y = .str j ∧ i.length + j.length ≤ sizeLine ∧ Q (.str (i ++ j)) H) ∨ rCatT K x y H Q ∨ rCat x y H Q
theorem op_addW : OpR X (binaryOp .Add) (rAddW X.K) := op_add.or (op_add_str.or (op_catT.or op_cat))
theorem sim_add : Sim2 G (rAddW G.K) gAdd := by
  intro a b h w h' e io H x y Q E ra rb p
  unfold gAdd at e
  split at e
  · cases e; cases ra; cases rb
    exact .inl ⟨_, _, rfl, rfl, p.here E (.int _)⟩
  · split at e
    · cases e; cases ra; cases rb
      exact .inr (.inl ⟨_, _, rfl, rfl, by assumption, p.here E (.str _)⟩)
    · cases e
  · split at e
    · rename_i hc
      cases e
      cases ra with
      | tup ha ra =>
        cases rb with
        | tup hb rb =>
          refine .inr (.inr (.inl ⟨_, _, _, _, rfl, rfl, .inl (.inl ha), .inl (.inl hb), ?_, ?_, fun z => ?_, fun _ q nq => p.tup E nq (ra.append rb)⟩))
          · intro z
            subst z
            exact hc.1 (List.eq_nil_of_length_eq_zero (by rw [ra.length]; rfl))
          · rw [← ra.length, ← rb.length]; exact hc.2
          · subst z
            have hz := List.eq_nil_of_length_eq_zero (by rw [rb.length]; rfl)
            subst hz
            rw [List.append_nil] at p
            exact p.here E (.tup ha ra)
    · cases e
  · split at e
    · rename_i e1 e2
      split at e
      · cases e
        obtain ⟨a1, vs1, rfl, _, _, h1, r1⟩ := lstOf_r E e1 ra
        obtain ⟨a2, vs2, rfl, _, _, h2, r2⟩ := lstOf_r E e2 rb
        exact .inr (.inr (.inr ⟨_, _, _, _, rfl, rfl, h1, h2, by rw [← r1.length, ← r2.length]; assumption, fun q nq => p.newL E nq (r1.append r2)⟩))
      · cases e
    · cases e
  · cases e
@[simp] def gSub : G2 := fun a b h => match a, b with
  | .int i, .int j => some (.int (i - j), h)
  | _, _ => none
theorem sim_sub : Sim2 G (rI0 fun i j => V.int (i - j)) gSub := by
  intro a b h w h' e io H x y Q E ra rb p
  unfold gSub at e
  split at e
  · cases e; cases ra; cases rb
    exact ⟨_, _, rfl, rfl, p.here E (.int _)⟩
  · cases e
/-- the sizes of the factors are told -/
def mulOk (i j : Int) : Bool := (decide (-(2 ^ 64) < i) && decide (i < 2 ^ 64)) || (decide (-(2 ^ 64) < j) && decide (j < 2 ^ 64)) || decide (PySem.Builtin.Int.intBits i + PySem.Builtin.Int.intBits j ≤ 134217728)
@[simp] def gMul : G2 := fun a b h => match a, b with
  | .int i, .int j => if mulOk i j = true then some (.int (i * j), h) else none
  | .ref n, .int k => match lstOf h (.ref n) with
    | some (_, xs) => if 0 ≤ k ∧ k < 2 ^ 63 ∧ xs.length * k.toNat ≤ sizeLine then some (.ref h.length, h ++ [.pl (.lst (List.replicate k.toNat xs).flatten)]) else none
    | _ => none
  | _, _ => none
def rMulW : R2 := fun x y H Q => (rI (fun i j => mulOk i j = true) (fun i j => V.int (i * j))) x y H Q ∨ rRep x y H Q
theorem mulOk_ok {i j : Int} (h : mulOk i j = true) : IntMulOk i j := by
  unfold mulOk at h
  rw [Bool.or_eq_true, Bool.or_eq_true] at h
  rcases h with (h | h) | h
  · rw [Bool.and_eq_true, decide_eq_true_eq, decide_eq_true_eq] at h
    exact CMul.ok (.inl h)
  · rw [Bool.and_eq_true, decide_eq_true_eq, decide_eq_true_eq] at h
    exact CMul.ok (.inr h)
  · rw [decide_eq_true_eq] at h
    exact IntMulOk.of_le (Nat.le_refl _) (Nat.le_refl _) h
theorem op_mulW2 : OpR X (binaryOp .Mult) rMulW := (opI fun _ _ _ _ _ _ _ hc q => mul_int q (mulOk_ok hc)).or op_rep
theorem sim_mul : Sim2 G rMulW gMul := by
  intro a b h w h' e io H x y Q E ra rb p
  unfold gMul at e
  split at e
  · split at e
    · cases e; cases ra; cases rb
      exact .inl ⟨_, _, rfl, rfl, by assumption, p.here E (.int _)⟩
    · cases e
  · split at e
    · rename_i e1
      split at e
      · rename_i hc
        cases e; cases rb
        obtain ⟨a1, vs1, rfl, _, _, h1, r1⟩ := lstOf_r E e1 ra
        exact .inr ⟨_, _, _, rfl, rfl, h1, by omega, hc.2.1, by rw [← r1.length]; exact hc.2.2, fun q nq => p.newL E nq (r1.rep _)⟩
      · cases e
    · cases e
  · cases e
@[simp] def gFdiv : G2 := fun a b h => match a, b with
  | .int i, .int j => if 0 < j ∧ j < 1073741824 then some (.int (i / j), h) else none
  | _, _ => none
theorem sim_fdiv : Sim2 G (rI CDiv fun i j => V.int (i / j)) gFdiv := by
  intro a b h w h' e io H x y Q E ra rb p
  unfold gFdiv at e
  split at e
  · split at e
    · cases e; cases ra; cases rb
      exact ⟨_, _, rfl, rfl, by assumption, p.here E (.int _)⟩
    · cases e
  · cases e
@[simp] def gMod : G2 := fun a b h => match a, b with
  | .int i, .int j => if 0 < j then some (.int (i % j), h) else none
  | _, _ => none
theorem sim_mod : Sim2 G (rI (fun _ j => 0 < j) fun i j => V.int (i % j)) gMod := by
  intro a b h w h' e io H x y Q E ra rb p
  unfold gMod at e
  split at e
  · split at e
    · cases e; cases ra; cases rb
      exact ⟨_, _, rfl, rfl, by assumption, p.here E (.int _)⟩
    · cases e
  · cases e
@[simp] def gPow : G2 := fun a b h => match a, b with
  | .int i, .int j => if 0 ≤ j ∧ j ≤ 1000000 ∧ i.natAbs < 2 ^ 64 then some (.int (i ^ j.toNat), h) else none
  | _, _ => none
theorem sim_pow : Sim2 G (rI CPow fun i j => V.int (i ^ j.toNat)) gPow := by
  intro a b h w h' e io H x y Q E ra rb p
  unfold gPow at e
  split at e
  · split at e
    · cases e; cases ra; cases rb
      exact ⟨_, _, rfl, rfl, by assumption, p.here E (.int _)⟩
    · cases e
  · cases e
@[simp] def gNeg : G1 := fun a h => match a with
  | .int i => some (.int (-i), h)
  | _ => none
theorem sim_neg : Sim1 G (rU fun i => V.int (-i)) gNeg := by
  intro a h w h' e io H x Q E ra p
  unfold gNeg at e
  split at e
  · cases e; cases ra
    exact ⟨_, rfl, p.here E (.int _)⟩
  · cases e
/-! ### comparisons -/
@[simp] def gRel (d : Int → Int → Bool) : G2 := fun a b h => match a, b with
  | .int i, .int j => some (.bl (d i j), h)
  | _, _ => none
theorem sim_rel (d : Int → Int → Bool) : Sim2 G (rI0 fun i j => V.bl (d i j)) (gRel d) := by
  intro a b h w h' e io H x y Q E ra rb p
  unfold gRel at e
  split at e
  · cases e; cases ra; cases rb
    exact ⟨_, _, rfl, rfl, p.here E (.bl _)⟩
  · cases e
abbrev gLt : G2 := gRel fun i j => decide (i < j)
abbrev gLe : G2 := gRel fun i j => decide (i ≤ j)
abbrev gGt : G2 := gRel fun i j => decide (j < i)
abbrev gGe : G2 := gRel fun i j => decide (j ≤ i)
@[simp] def isNon : W → Bool
  | .non => true
  | _ => false
theorem isNon_r {K : PySem.W.Frag} {w : W} {v : V} {ad : Nat → Option Addr} (r : RW K ad H w v) : decide (v = .non) = isNon w := by
  cases r <;> simp [isNon]
@[simp] def gIsN : G2 := fun a b h => match b with
  | .non => some (.bl (isNon a), h)
  | _ => none
@[simp] def gNotN : G2 := fun a b h => match b with
  | .non => some (.bl (!isNon a), h)
  | _ => none
theorem sim_isN : Sim2 G (fun x y H Q => y = .non ∧ Q (.bl (decide (x = .non))) H) gIsN := by
  intro a b h w h' e io H x y Q E ra rb p
  unfold gIsN at e
  split at e
  · cases e; cases rb
    exact ⟨rfl, by rw [isNon_r ra]; exact p.here E (.bl _)⟩
  · cases e
theorem sim_notN : Sim2 G (fun x y H Q => y = .non ∧ Q (.bl (!decide (x = .non))) H) gNotN := by
  intro a b h w h' e io H x y Q E ra rb p
  unfold gNotN at e
  split at e
  · cases e; cases rb
    exact ⟨rfl, by rw [isNon_r ra]; exact p.here E (.bl _)⟩
  · cases e
@[simp] def gIsB : G2 := fun a b h => match a, b with
  | .bl i, .bl j => some (.bl (decide (i = j)), h)
  | _, _ => none
@[simp] def gNotB : G2 := fun a b h => match a, b with
  | .bl i, .bl j => some (.bl (!decide (i = j)), h)
  | _, _ => none
theorem sim_isB : Sim2 G rIsB gIsB := by
  intro a b h w h' e io H x y Q E ra rb p
  unfold gIsB at e
  split at e
  · cases e; cases ra; cases rb
    exact ⟨_, _, rfl, rfl, p.here E (.bl _)⟩
  · cases e
theorem sim_notB : Sim2 G rNotB gNotB := by
  intro a b h w h' e io H x y Q E ra rb p
  unfold gNotB at e
  split at e
  · cases e; cases ra; cases rb
    exact ⟨_, _, rfl, rfl, p.here E (.bl _)⟩
  · cases e
/-! ### == of data -/
def mapO {A B : Type} (f : A → Option B) : List A → Option (List B)
  | [] => some []
  | x :: xs => match f x with
    | none => none
    | some y => match mapO f xs with
      | none => none
      | some ys => some (y :: ys)
def toD : Nat → VH → W → Option PyData
  | 0, _, _ => none
  | n + 1, h, w => match w with
    | .non => some .none
    | .bl b => some (.bool b)
    | .int i => some (.int i)
    | .str x => if PyData.strOk x = true then some (.str x) else none
    | .tup xs => match mapO (toD n h) xs with
      | some ds => some (.tuple ds)
      | none => none
    | w => match lstAt h w with
      | some xs => (match mapO (toD n h) xs with
        | some ds => some (.list ds)
        | none => none)
      | none => none
theorem depthAll_le {n : Nat} : ∀ {ds : List PyData}, (∀ d ∈ ds, d.depth ≤ n) → PyData.depthAll ds ≤ n
  | [], _ => by simp [PyData.depthAll]
  | d :: ds, h => by
    have h1 := h d List.mem_cons_self
    have h2 := depthAll_le (n := n) (ds := ds) fun d hd => h d (List.mem_cons_of_mem _ hd)
    simp only [PyData.depthAll]
    omega
theorem canLayAll_of : ∀ {ds : List PyData}, (∀ d ∈ ds, d.canLay0 = true) → PyData.canLayAll0 ds = true
  | [], _ => by simp [PyData.canLayAll0]
  | d :: ds, h => by
    have h1 := h d List.mem_cons_self
    have h2 := canLayAll_of (ds := ds) fun d hd => h d (List.mem_cons_of_mem _ hd)
    simp [PyData.canLayAll0, h1, h2]
theorem mapO_mem {A B : Type} {f : A → Option B} : ∀ {xs : List A} {ys : List B}, mapO f xs = some ys → ∀ y ∈ ys, ∃ x ∈ xs, f x = some y
  | [], _, e, y, hy => by simp [mapO] at e; subst e; cases hy
  | x :: xs, ys, e, y, hy => by
    unfold mapO at e
    split at e
    · cases e
    · rename_i y1 e1
      split at e
      · cases e
      · rename_i ys1 e2
        cases e
        rcases List.mem_cons.mp hy with q | q
        · subst q; exact ⟨x, List.mem_cons_self, e1⟩
        · obtain ⟨x', hx, e'⟩ := mapO_mem e2 y q
          exact ⟨x', List.mem_cons_of_mem _ hx, e'⟩
theorem toD_shaped : ∀ {n : Nat} {h : VH} {w : W} {d : PyData}, toD n h w = some d → d.canLay0 = true ∧ d.depth ≤ n
  | 0, _, _, _, e => by simp [toD] at e
  | n + 1, h, w, d, e => by
    unfold toD at e
    split at e
    · cases e; simp [PyData.canLay0, PyData.depth]
    · cases e; simp [PyData.canLay0, PyData.depth]
    · cases e; simp [PyData.canLay0, PyData.depth]
    · split at e
      · cases e; rename_i hs; simp [PyData.canLay0, PyData.depth, hs]
      · cases e
    · split at e
      · rename_i ds e1
        cases e
        have all : ∀ d ∈ ds, d.canLay0 = true ∧ d.depth ≤ n := fun d hd => by
          obtain ⟨x, _, ex⟩ := mapO_mem e1 d hd
          exact toD_shaped ex
        have h1 := canLayAll_of fun d hd => (all d hd).1
        have h2 := depthAll_le fun d hd => (all d hd).2
        simp only [PyData.canLay0, PyData.depth]
        exact ⟨h1, by omega⟩
      · cases e
    · split at e
      · rename_i xs e0
        split at e
        · rename_i ds e1
          cases e
          have all : ∀ d ∈ ds, d.canLay0 = true ∧ d.depth ≤ n := fun d hd => by
            obtain ⟨x, _, ex⟩ := mapO_mem e1 d hd
            exact toD_shaped ex
          have h1 := canLayAll_of fun d hd => (all d hd).1
          have h2 := depthAll_le fun d hd => (all d hd).2
          simp only [PyData.canLay0, PyData.depth]
          exact ⟨h1, by omega⟩
        · cases e
      · cases e
theorem mapO_r {n : Nat} {h : VH} {ad : Nat → Option Addr} {H : Hp} {K : PySem.W.Frag} (ih : ∀ {w : W} {v : V} {d : PyData}, toD n h w = some d → RW K ad H w v → Dp K H v d) : ∀ {xs : List W} {vs : List V} {ds : List PyData}, mapO (toD n h) xs = some ds → RWs K ad H xs vs → DpAll K H vs ds
  | _, _, ds, e, .nil => by simp [mapO] at e; subst e; exact .nil
  | _, _, ds, e, .cons hw t => by
    unfold mapO at e
    split at e
    · cases e
    · rename_i y1 e1
      split at e
      · cases e
      · rename_i ys1 e2
        cases e
        exact .cons (ih e1 hw) (mapO_r ih e2 t)
theorem toD_r {h : VH} (E : Emb G io h H) : ∀ {n : Nat} {w : W} {v : V} {d : PyData}, toD n h w = some d → RW G.K (adr io) H w v → Dp G.K H v d
  | 0, _, _, _, e, _ => by simp [toD] at e
  | n + 1, w, v, d, e, r => by
    unfold toD at e
    split at e
    · cases e; cases r; exact .non
    · cases e; cases r; exact .bl _
    · cases e; cases r; exact .int _
    · split at e
      · cases e; cases r; exact .str _
      · cases e
    · split at e
      · rename_i ds e1
        cases e
        cases r with
        | tup ha ra => exact .tup (.inl (.inl ha)) (mapO_r (fun e r => toD_r E e r) e1 ra)
      · cases e
    · split at e
      · rename_i xs e0
        split at e
        · rename_i ds e1
          cases e
          obtain ⟨a, vs, rfl, hv, rv⟩ := lstAt_r E e0 r
          exact .lst hv (mapO_r (fun e r => toD_r E e r) e1 rv)
        · cases e
      · cases e
@[simp] def gEq : G2 := fun a b h => match toD 8 h a, toD 8 h b with
  | some d, some e => some (.bl (PyData.eqv d e), h)
  | _, _ => none
@[simp] def gNe : G2 := fun a b h => match toD 8 h a, toD 8 h b with
  | some d, some e => some (.bl (!PyData.eqv d e), h)
  | _, _ => none
theorem shaped_of {n : Nat} {h : VH} {w : W} {d : PyData} (e : toD n h w = some d) (hn : n ≤ 64) : SeqAt.shaped d = true := by
  obtain ⟨h1, h2⟩ := toD_shaped e
  unfold SeqAt.shaped
  rw [h1, Bool.true_and, decide_eq_true_eq]
  omega
theorem sim_eq : Sim2 G (rEqD G.K) gEq := by
  intro a b h w h' e io H x y Q E ra rb p
  unfold gEq at e
  split at e
  · rename_i e1 e2
    cases e
    exact ⟨_, _, toD_r E e1 ra, toD_r E e2 rb, shaped_of e1 (by decide), shaped_of e2 (by decide), p.here E (.bl _)⟩
  · cases e
theorem sim_ne : Sim2 G (rNeD G.K) gNe := by
  intro a b h w h' e io H x y Q E ra rb p
  unfold gNe at e
  split at e
  · rename_i e1 e2
    cases e
    exact ⟨_, _, toD_r E e1 ra, toD_r E e2 rb, shaped_of e1 (by decide), shaped_of e2 (by decide), p.here E (.bl _)⟩
  · cases e
/-! ### in, not in -/
@[simp] def flatW : W → Bool
  | .non => true
  | .bl _ => true
  | .int _ => true
  | .str _ => true
  | _ => false
@[simp] def eqW : W → W → Bool
  | .non, .non => true
  | .bl a, .bl b => a == b
  | .bl a, .int b => (if a then 1 else 0) == b
  | .int a, .bl b => a == (if b then 1 else 0)
  | .int a, .int b => a == b
  | .str a, .str b => a == b
  | _, _ => false
@[simp] def inW (x : W) (xs : List W) : Bool := xs.any fun y => eqW y x
/-- a list or a tuple, to be read -/
@[simp] def seqAt (h : VH) : W → Option (List W)
  | .tup xs => some xs
  | w => lstAt h w
theorem seqAt_r {w : W} {v : V} {xs : List W} (E : Emb G io h H) (e : seqAt h w = some xs) (r : RW G.K (adr io) H w v) : ∃ a vs, v = .ref a ∧ (SqL G.K H a vs ∨ SqT G.K H a vs) ∧ RWs G.K (adr io) H xs vs := by
  unfold seqAt at e
  split at e
  · cases e
    cases r with
    | tup ha ra => exact ⟨_, _, rfl, .inr (.inl (.inl ha)), ra⟩
  · obtain ⟨a, vs, h1, h2, h3⟩ := lstAt_r E e r
    exact ⟨a, vs, h1, .inl h2, h3⟩
theorem flat_r {K : PySem.W.Frag} {ad : Nat → Option Addr} {w : W} {v : V} (r : RW K ad H w v) (f : flatW w = true) : flatV v = true := by
  cases r <;> first | rfl | cases f
theorem flats_r {K : PySem.W.Frag} {ad : Nat → Option Addr} : ∀ {xs : List W} {vs : List V}, RWs K ad H xs vs → xs.all flatW = true → vs.all flatV = true
  | _, _, .nil, _ => rfl
  | _, _, .cons h t, f => by
    rw [List.all_cons, Bool.and_eq_true] at f
    rw [List.all_cons, flat_r h f.1, flats_r t f.2]
    rfl
theorem eqW_r {K : PySem.W.Frag} {ad : Nat → Option Addr} {w w' : W} {v v' : V} (r : RW K ad H w v) (r' : RW K ad H w' v') (f : flatW w = true) (f' : flatW w' = true) : eqV v v' = eqW w w' := by
  cases r <;> cases r' <;> first | rfl | cases f | cases f'
theorem inW_r {K : PySem.W.Frag} {ad : Nat → Option Addr} {w : W} {v : V} (r : RW K ad H w v) (f : flatW w = true) : ∀ {xs : List W} {vs : List V}, RWs K ad H xs vs → xs.all flatW = true → inV v vs = inW w xs
  | _, _, .nil, _ => rfl
  | _, _, .cons h t, g => by
    rw [List.all_cons, Bool.and_eq_true] at g
    have ih := inW_r r f t g.2
    unfold inV inW at ih ⊢
    rw [List.any_cons, List.any_cons, eqW_r h r g.1 f, ih]
@[simp] def gIn (neg : Bool) : G2 := fun a b h => match seqAt h b with
  | some xs => if flatW a = true ∧ xs.all flatW = true then some (.bl (if neg then !inW a xs else inW a xs), h) else none
  | none => none
theorem sim_in (neg : Bool) : Sim2 G (rIn G.K neg) (gIn neg) := by
  intro a b h w h' e io H x y Q E ra rb p
  unfold gIn at e
  split at e
  · rename_i xs e1
    split at e
    · rename_i hc
      cases e
      obtain ⟨c, vs, rfl, hv, rv⟩ := seqAt_r E e1 rb
      refine ⟨c, vs, rfl, hv, flat_r ra hc.1, flats_r rv hc.2, ?_⟩
      rw [inW_r ra hc.1 rv hc.2]
      exact p.here E (.bl _)
    · cases e
  · cases e
/-! ### items and slices -/
@[simp] def atW (xs : List W) (i : Int) : Option W := (ixN xs.length i).bind fun j => xs[j]?
theorem atW_r {K : PySem.W.Frag} {ad : Nat → Option Addr} {xs : List W} {vs : List V} {i : Int} {w : W} (r : RWs K ad H xs vs) (e : atW xs i = some w) : ∃ v, atI vs i = some v ∧ RW K ad H w v := by
  unfold atW at e
  unfold atI
  rw [← r.length]
  cases q : ixN xs.length i with
  | none => rw [q] at e; cases e
  | some j =>
    rw [q] at e
    obtain ⟨v, h1, h2⟩ := r.get (show xs[j]? = some w from e)
    exact ⟨v, h1, h2⟩
@[simp] def gIx : G2 := fun a b h => match b with
  | .int i => match seqAt h a with
    | some xs => (match atW xs i with
      | some w => some (w, h)
      | none => none)
    | none => none
  | _ => none
def rIxW (K : PySem.W.Frag) : R2 := fun x y H Q => rIxL K x y H Q ∨ rIxT K x y H Q
theorem ix_w : IxR X (rIxW X.K) := ix_list.or ix_tup
theorem sim_ix : Sim2 G (rIxW G.K) gIx := by
  intro a b h w h' e io H x y Q E ra rb p
  unfold gIx at e
  split at e
  · split at e
    · rename_i xs e1
      split at e
      · rename_i w1 e2
        cases e; cases rb
        obtain ⟨c, vs, rfl, hv, rv⟩ := seqAt_r E e1 ra
        obtain ⟨v, hv2, rv2⟩ := atW_r rv e2
        rcases hv with hv | hv
        · exact .inl ⟨c, vs, _, v, rfl, rfl, hv, hv2, p.here E rv2⟩
        · exact .inr ⟨c, vs, _, v, rfl, rfl, hv, hv2, p.here E rv2⟩
      · cases e
    · cases e
  · cases e
end
end Tw

namespace Tw
open PySem PySem.Spec PyProof.Rows L2

section
variable {G : Gm} {X : Cx} {Wx : WX}
/-! ### chains, and, or, not, if as values -/
@[simp] def fChain (g g' : G2) (fa fb fc : FE) : FE := fun fm h => bindM (fa fm h) fun a h1 => bindM (fb fm h1) fun b h2 => bindM (retM (g a b h2)) fun z h3 => match z with
  | .bl k => if k = true then bindM (fc fm h3) fun c h4 => retM (g' b c h4) else some (.ok (.bl false), h3)
  | _ => none
theorem chain_read {r r' : R2} {g g' : G2} {fa fb fc : FE} (sm : Sim2 G r g) (sm' : Sim2 G r' g') {s : L2.St} {H : Hp} {Q : VK} (q : cE G Wx (fChain g g' fa fb fc) s H Q) : tChain r r' (cE G Wx fa) (cE G Wx fb) (cE G Wx fc) s H Q := by
  obtain ⟨fm, h, r, h', io, e, E, S, p⟩ := q
  refine cG_step E S e p fun a h1 e1 io1 H1 v x1 E1 rv => ?_
  refine cG_step E1 (S.ext x1) e1 (p.ext x1) fun b h2 e2 io2 H2 u x2 E2 ru => ?_
  rcases bindM_cases e2 with ⟨z, h3, e3, e4⟩ | ⟨c, e3, _⟩
  · obtain ⟨z', e5, e6⟩ := retM_cases e3
    cases e6
    refine sm _ _ _ _ _ e5 io2 H2 v u _ E2 (rv.ext x2) ru fun io3 H3 x3 E3 y ry => ?_
    split at e4
    · cases ry
      refine ⟨_, rfl, ?_⟩
      split at e4
      · rename_i hk
        rw [if_pos hk]
        refine cG_step E3 (S.ext ((x1.trans x2).trans x3)) e4 (p.ext ((x1.trans x2).trans x3)) fun c h4 e7 io4 H4 w x4 E4 rw_ => ?_
        obtain ⟨w', e8, rfl⟩ := retM_cases e7
        exact sm' _ _ _ _ _ e8 io4 H4 u w Q E4 ((ru.ext x3).ext x4) rw_ fun io' H' x' E' => p io' H' ((((x1.trans x2).trans x3).trans x4).trans x') E'
      · rename_i hk
        rw [if_neg hk]
        cases e4
        exact p io3 H3 ((x1.trans x2).trans x3) E3 _ (.bl _)
    · cases e4
  · obtain ⟨_, _, e6⟩ := retM_cases e3
    cases e6
variable {a b c : Expr} {fa fb fc : FE} {pos : Pos} {rest : List Expr} {gc : FT}
theorem se_chain {op op' : CmpOp} {r r' : R2} {g g' : G2} (ho : OpR X (compareOp op) r) (sm : Sim2 G r g) (ho' : OpR X (compareOp op') r') (sm' : Sim2 G r' g') (ha : SE G X Wx a fa) (hb : SE G X Wx b fb) (hc : SE G X Wx c fc)
    (hm : lastMarks [op, op'] [b, c] = false := by with_unfolding_all rfl) : SE G X Wx (.Compare a [op, op'] [b, c] pos) (fChain g g' fa fb fc) := PEw (pe_chain ho ho' ha hb hc hm) fun _ _ _ q => chain_read sm sm' q
theorem st_chain {op op' : CmpOp} {r r' : R2} {g g' : G2} (ho : OpR X (compareOp op) r) (sm : Sim2 G r g) (ho' : OpR X (compareOp op') r') (sm' : Sim2 G r' g') (ha : SE G X Wx a fa) (hb : SE G X Wx b fb) (hc : SE G X Wx c fc)
    (hm : lastMarks [op, op'] [b, c] = false := by with_unfolding_all rfl) : ST G X Wx (.Compare a [op, op'] [b, c] pos) (fB (fChain g g' fa fb fc)) := PTw (pt_chain ho ho' ha hb hc hm) fun _ _ _ q => chain_read sm sm' (B_read q)
@[simp] def fAndV (fa fb : FE) : FE := fun fm h => bindM (fa fm h) fun w h1 => match w with
  | .bl k => if k = true then fb fm h1 else some (.ok (.bl false), h1)
  | _ => none
@[simp] def fOrV (fa fb : FE) : FE := fun fm h => bindM (fa fm h) fun w h1 => match w with
  | .bl k => if k = true then some (.ok (.bl true), h1) else fb fm h1
  | _ => none
@[simp] def fNotV (fa : FE) : FE := fun fm h => bindM (fa fm h) fun w h1 => match w with
  | .bl k => some (.ok (.bl (!k)), h1)
  | _ => none
@[simp] def fIf (gc : FT) (fa fb : FE) : FE := fun fm h => bindM (gc fm h) fun k h1 => if k = true then fa fm h1 else fb fm h1
theorem se_one {op} (h : SE G X Wx a fa) : SE G X Wx (.BoolOp op [a] pos) fa := pe_one h
theorem se_and (ha : SE G X Wx a fa) (hb : SE G X Wx (.BoolOp .And (b :: rest) pos) fb) : SE G X Wx (.BoolOp .And (a :: b :: rest) pos) (fAndV fa fb) := by
  refine PEw (pe_and ha hb) fun s H Q q => ?_
  obtain ⟨fm, h, r, h', io, e, E, S, p⟩ := q
  refine cG_step E S e p fun a h1 e1 io1 H1 v x1 E1 rv => ?_
  split at e1
  · cases rv
    refine ⟨_, rfl, ?_⟩
    split at e1
    · rename_i hk
      rw [if_pos hk]
      exact cG_last E1 (S.ext x1) e1 (p.ext x1)
    · rename_i hk
      rw [if_neg hk]
      cases e1
      exact p io1 H1 x1 E1 _ (.bl _)
  · cases e1
theorem se_or (ha : SE G X Wx a fa) (hb : SE G X Wx (.BoolOp .Or (b :: rest) pos) fb) : SE G X Wx (.BoolOp .Or (a :: b :: rest) pos) (fOrV fa fb) := by
  refine PEw (pe_or ha hb) fun s H Q q => ?_
  obtain ⟨fm, h, r, h', io, e, E, S, p⟩ := q
  refine cG_step E S e p fun a h1 e1 io1 H1 v x1 E1 rv => ?_
  split at e1
  · cases rv
    refine ⟨_, rfl, ?_⟩
    split at e1
    · rename_i hk
      rw [if_pos hk]
      cases e1
      exact p io1 H1 x1 E1 _ (.bl _)
    · rename_i hk
      rw [if_neg hk]
      exact cG_last E1 (S.ext x1) e1 (p.ext x1)
  · cases e1
theorem se_not (ha : SE G X Wx a fa) : SE G X Wx (.UnaryOp .Not a pos) (fNotV fa) := by
  refine PEw (pe_not ha) fun s H Q q => ?_
  obtain ⟨fm, h, r, h', io, e, E, S, p⟩ := q
  refine cG_step E S e p fun a h1 e1 io1 H1 v x1 E1 rv => ?_
  split at e1
  · cases rv
    cases e1
    exact ⟨_, rfl, p io1 H1 x1 E1 _ (.bl _)⟩
  · cases e1
theorem se_if (hc : ST G X Wx c gc) (ha : SE G X Wx a fa) (hb : SE G X Wx b fb) : SE G X Wx (.IfExp c a b pos) (fIf gc fa fb) := by
  refine PEw (pe_ifExp hc ha hb) fun s H Q q => ?_
  obtain ⟨fm, h, r, h', io, e, E, S, p⟩ := q
  refine cG_step E S e p fun a h1 e1 io1 H1 v x1 E1 rv => ?_
  cases (show a = v from rv)
  split at e1
  · rename_i hk
    rw [if_pos hk]
    exact cG_last E1 (S.ext x1) e1 (p.ext x1)
  · rename_i hk
    rw [if_neg hk]
    exact cG_last E1 (S.ext x1) e1 (p.ext x1)

/-! ### argument lists, displays -/
@[simp] def fAll : List FE → FA
  | [] => fun _ h => some (.ok [], h)
  | f :: fs => fun fm h => bindM (f fm h) fun w h1 => bindM (fAll fs fm h1) fun ws h2 => some (.ok (w :: ws), h2)
variable {e : Expr} {es : List Expr} {f : FE} {fs : List FE} {fas : FA}
theorem sa_nil : SA G X Wx [] (fAll []) := by
  refine PAw pa_nil fun s H Q q => ?_
  obtain ⟨fm, h, r, h', io, e, E, S, p⟩ := q
  cases e
  exact p.now E .nil
theorem cons_read {s : L2.St} {H : Hp} {Q : List V → Hp → Prop} (q : cA G Wx (fAll (f :: fs)) s H Q) : tCons (cE G Wx f) (cA G Wx (fAll fs)) s H Q := by
  obtain ⟨fm, h, r, h', io, e, E, S, p⟩ := q
  refine cG_step E S (show bindM (f fm h) _ = _ from e) p fun a h1 e1 io1 H1 v x1 E1 rv => ?_
  refine cG_step E1 (S.ext x1) e1 (p.ext x1) fun b h2 e2 io2 H2 u x2 E2 ru => ?_
  cases e2
  exact p io2 H2 (x1.trans x2) E2 _ (.cons (rv.ext x2) ru)
theorem sa_cons (he : SE G X Wx e f) (hr : SA G X Wx es (fAll fs)) (hs : starEach (e :: es) X.env = (false, eval e X.env) :: starEach es X.env := by rfl) : SA G X Wx (e :: es) (fAll (f :: fs)) :=
  PAw (pa_cons he hr hs) fun _ _ _ q => cons_read q
@[simp] def fTup (fs : List FE) : FE := fun fm h => bindM (fAll fs fm h) fun ws h1 => if ws.length ≤ sizeLine then some (.ok (.tup ws), h1) else none
@[simp] def fLst (fs : List FE) : FE := fun fm h => bindM (fAll fs fm h) fun ws h1 => if ws.length ≤ sizeLine then some (.ok (.ref h1.length), h1 ++ [.pl (.lst ws)]) else none
theorem se_tup {x1} (ha : SA G X Wx es (fAll fs)) : SE G X Wx (.Tuple es x1 pos) (fTup fs) := by
  refine PEw (pe_tup ha) fun s H Q q => ?_
  obtain ⟨fm, h, r, h', io, e, E, S, p⟩ := q
  refine cG_step E S e p fun a h1 e1 io1 H1 v x1 E1 rv => ?_
  split at e1
  · cases e1
    refine ⟨by rw [← rv.length]; assumption, fun q nq => ?_⟩
    exact PostW.tup (fun io' H' x' E' => p io' H' (x1.trans x') E') E1 nq rv
  · cases e1
theorem se_lst (ha : SA G X Wx es (fAll fs)) : SE G X Wx (.List es pos) (fLst fs) := by
  refine PEw (pe_lst ha) fun s H Q q => ?_
  obtain ⟨fm, h, r, h', io, e, E, S, p⟩ := q
  refine cG_step E S e p fun a h1 e1 io1 H1 v x1 E1 rv => ?_
  split at e1
  · cases e1
    refine ⟨by rw [← rv.length]; assumption, fun q nq => ?_⟩
    exact PostW.newL (fun io' H' x' E' => p io' H' (x1.trans x') E') E1 nq rv
  · cases e1

/-! ### fields -/
theorem zipF_look : ∀ {fs : List Str} {vs : List V} {j : Nat} {f : Str}, fs.Nodup → fs[j]? = some f → (zipF fs vs).lookup f = vs[j]?
  | [], _, _, _, _, e => by simp at e
  | g :: gs, [], j, f, _, _ => by simp [zipF]
  | g :: gs, v :: vs, 0, f, _, e => by
    simp at e
    subst e
    simp [zipF, List.lookup]
  | g :: gs, v :: vs, j + 1, f, nd, e => by
    have e' : gs[j]? = some f := by simpa using e
    have ne : f ≠ g := fun z => by
      rw [List.nodup_cons] at nd
      exact nd.1 (z ▸ List.mem_of_getElem? e')
    have hb : (f == g) = false := beq_eq_false_iff_ne.mpr ne
    have ih := zipF_look (vs := vs) (List.nodup_cons.mp nd).2 e'
    show List.lookup f ((g, v) :: gs.zip vs) = _
    simp only [List.lookup, hb]
    exact ih
theorem zipF_no : ∀ {fs : List Str} {vs : List V} {f : Str}, f ∉ fs → (zipF fs vs).lookup f = none
  | [], _, _, _ => by simp [zipF]
  | g :: gs, [], f, _ => by simp [zipF]
  | g :: gs, v :: vs, f, h => by
    have ne : f ≠ g := fun z => h (z ▸ List.mem_cons_self)
    have hb : (f == g) = false := beq_eq_false_iff_ne.mpr ne
    show List.lookup f ((g, v) :: gs.zip vs) = _
    simp only [List.lookup, hb]
    exact zipF_no fun z => h (List.mem_cons_of_mem _ z)
theorem zipF_put : ∀ {fs : List Str} {vs : List V} {j : Nat} {f : Str} {v : V}, fs.Nodup → fs[j]? = some f → j < vs.length → putF f v (zipF fs vs) = zipF fs (vs.set j v)
  | [], _, _, _, _, _, e, _ => by simp at e
  | g :: gs, [], j, f, _, _, _, h => by simp at h
  | g :: gs, v :: vs, 0, f, u, _, e, _ => by
    simp at e
    subst e
    simp [zipF, putF]
  | g :: gs, v :: vs, j + 1, f, u, nd, e, h => by
    have e' : gs[j]? = some f := by simpa using e
    have ne : g ≠ f := fun z => by
      rw [List.nodup_cons] at nd
      exact nd.1 (z ▸ List.mem_of_getElem? e')
    have ih := zipF_put (vs := vs) (v := u) (List.nodup_cons.mp nd).2 e' (by simpa using h)
    show putF f u ((g, v) :: zipF gs vs) = (g, v) :: zipF gs (vs.set j u)
    rw [show putF f u ((g, v) :: zipF gs vs) = (if g = f then (g, u) :: zipF gs vs else (g, v) :: putF f u (zipF gs vs)) from rfl, if_neg ne, ih]
theorem zipF_app : ∀ {fs : List Str} {vs : List V} {f : Str} {v : V}, fs.Nodup → fs[vs.length]? = some f → putF f v (zipF fs vs) = zipF fs (vs ++ [v])
  | [], _, _, _, _, e => by simp at e
  | g :: gs, [], f, u, _, e => by
    simp at e
    subst e
    simp [zipF, putF]
  | g :: gs, v :: vs, f, u, nd, e => by
    have e' : gs[vs.length]? = some f := by simpa using e
    have ne : g ≠ f := fun z => by
      rw [List.nodup_cons] at nd
      exact nd.1 (z ▸ List.mem_of_getElem? e')
    have ih := zipF_app (v := u) (List.nodup_cons.mp nd).2 e'
    show putF f u ((g, v) :: zipF gs vs) = (g, v) :: zipF gs (vs ++ [u])
    rw [show putF f u ((g, v) :: zipF gs vs) = (if g = f then (g, u) :: zipF gs vs else (g, v) :: putF f u (zipF gs vs)) from rfl, if_neg ne, ih]
/-- the class of the instance, plain or in a box -/
@[simp] def clsAt (h : VH) (n : Nat) : Option Nat := match h[n]? with
  | some (.pl (.ins c _)) => some c
  | some (.tk _) => some 0
  | _ => none
theorem clsAt_r {io : List (List Addr)} {h : VH} {H : Hp} {n c : Nat} {v : V} (E : Emb G io h H) (e : clsAt h n = some c) (r : RW G.K (adr io) H (.ref n) v) : ∃ a dx vs, v = .ref a ∧ H a = some (.ins (G.C c) dx (zipF (G.fl c) vs)) := by
  unfold clsAt at e
  split at e
  · rename_i c' fs hn
    cases e
    obtain ⟨a, rfl, _, vs, dx, hv, _⟩ := E.ref hn r
    exact ⟨a, dx, vs, rfl, hv⟩
  · rename_i T hn
    cases e
    obtain ⟨l, el, hl, q⟩ := E.at_ n _ hn
    obtain ⟨a, ea, vs, dx, hv, _⟩ := q 0 _ rfl
    cases r with
    | ref z =>
      have : adr io n = some a := by
        unfold adr
        rw [el]
        show l.head? = some a
        cases l with
        | nil => simp at ea
        | cons b l => simpa using ea
      rw [this] at z
      cases z
      exact ⟨a, dx, vs, rfl, hv⟩
  · cases e
/-- o.f, f the j-th field of the class c -/
@[simp] def fFld (c j : Nat) (fo : FE) : FE := fun fm h => bindM (fo fm h) fun w h1 => match w with
  | .ref n => (match h1[n]? with
    | some (.pl (.ins c' fs)) => if c' = c then (match fs[j]? with
      | some x => some (.ok x, h1)
      | none => none) else none
    | _ => none)
  | _ => none
theorem se_fld (c j : Nat) {fo : FE} {o : Expr} {x : Str} (cl : Cls G.K (G.C c)) (na : NoAttr G.K (G.C c) x) (hx : (G.fl c)[j]? = some x) (hK : X.K = G.K) (ho : SE G X Wx o fo)
    (hb : attributeBase o x X.env (eval o X.env) = eval o X.env := by rfl) : SE G X Wx (.Attribute o x pos) (fFld c j fo) := by
  refine PEw (pe_fld ho hb) fun s H Q q => ?_
  obtain ⟨fm, h, r, h', io, e, E, S, p⟩ := q
  refine cG_step E S e p fun a h1 e1 io1 H1 v x1 E1 rv => ?_
  split at e1
  · split at e1
    · rename_i n _ c' fs hn
      split at e1
      · rename_i hc
        subst hc
        split at e1
        · rename_i w hw
          cases e1
          obtain ⟨a, rfl, ei, vs, dx, hv, rvs, hl, nd, _⟩ := E1.ref hn rv
          obtain ⟨u, hu, ru⟩ := rvs.get hw
          refine ⟨a, _, dx, _, u, rfl, hv, by rw [hK]; exact cl, by rw [hK]; exact na, ?_, p io1 H1 x1 E1 u ru⟩
          rw [zipF_look nd hx]
          exact hu
        · cases e1
      · cases e1
    · cases e1
  · cases e1

/-! ### slices -/
def cutW (xs : List W) (lo hi : Option Int) : List W := (xs.drop (HT.sIx xs.length 0 lo)).take (HT.sIx xs.length xs.length hi - HT.sIx xs.length 0 lo)
theorem cutW_r {K : PySem.W.Frag} {ad : Nat → Option Addr} {H : Hp} {xs : List W} {vs : List V} (r : RWs K ad H xs vs) (lo hi : Option Int) : RWs K ad H (cutW xs lo hi) (cutV vs lo hi) := by
  unfold cutW cutV
  rw [← r.length]
  exact (r.drop _).take _
@[simp] def fNo : FO := fun _ h => some (.ok none, h)
@[simp] def fPart (f : FE) : FO := fun fm h => bindM (f fm h) fun w h1 => match w with
  | .int i => some (.ok (some i), h1)
  | _ => none
theorem so_none : SO G X Wx none fNo := ⟨fun pins s σ H Q I q => by
  obtain ⟨fm, h, r, h', io, e, E, S, p⟩ := q
  cases e
  exact po_none.run pins s σ H Q I (p.now E (rfl : relO (adr io) H none none))⟩
theorem so_some (he : SE G X Wx e f) : SO G X Wx (some e) (fPart f) := ⟨fun pins s σ H Q I q => (po_some he).run pins s σ H Q I (by
  obtain ⟨fm, h, r, h', io, e, E, S, p⟩ := q
  refine cG_step E S e p fun a h1 e1 io1 H1 v x1 E1 rv => ?_
  split at e1
  · cases e1; cases rv
    exact ⟨_, rfl, p io1 H1 x1 E1 _ rfl⟩
  · cases e1)⟩
abbrev G3 := W → Option Int → Option Int → VH → Option (W × VH)
def Sim3 (G : Gm) (r : V → Option Int → Option Int → Hp → VK → Prop) (g : G3) : Prop := ∀ a l u h w h', g a l u h = some (w, h') → ∀ io H x Q, Emb G io h H → RW G.K (adr io) H a x → PostW G io H w h' Q → r x l u H Q
@[simp] def fSl (g : G3) (fa : FE) (fl fu : FO) : FE := fun fm h => bindM (fa fm h) fun a h1 => bindM (fl fm h1) fun l h2 => bindM (fu fm h2) fun u h3 => retM (g a l u h3)
@[simp] def gSl : G3 := fun a l u h => match a with
  | .tup xs => if HT.sIx xs.length 0 l = 0 ∧ HT.sIx xs.length xs.length u = xs.length then none else some (.tup (cutW xs l u), h)
  | .str z => if z.length ≤ sizeLine then some (.str (cutS z l u), h) else none
  | w => match lstAt h w with
    | some xs => some (.ref h.length, h ++ [.pl (.lst (cutW xs l u))])
    | none => none
def rSlW (K : PySem.W.Frag) : V → Option Int → Option Int → Hp → VK → Prop := fun x l u H Q => rSlL K x l u H Q ∨ rSlT K x l u H Q ∨ rSlS x l u H Q
theorem sl_w : SlR X (rSlW X.K) := sl_list.or (sl_tup.or sl_str)
theorem sim_sl : Sim3 G (rSlW G.K) gSl := by
  intro a l u h w h' e io H x Q E ra p
  unfold gSl at e
  split at e
  · split at e
    · cases e
    · rename_i hc
      cases e
      cases ra with
      | tup ha rs =>
        refine .inr (.inl ⟨_, _, rfl, .inl (.inl ha), ?_, fun q nq => p.tup E nq (cutW_r rs l u)⟩)
        rw [← rs.length]
        exact hc
  · split at e
    · cases e; cases ra
      exact .inr (.inr ⟨_, rfl, by assumption, p.here E (.str _)⟩)
    · cases e
  · split at e
    · rename_i xs e1
      cases e
      obtain ⟨a, vs, rfl, hv, rv⟩ := lstAt_r E e1 ra
      exact .inl ⟨a, vs, rfl, hv, fun q nq => p.newL E nq (cutW_r rv l u)⟩
    · cases e
theorem se_sl {r : V → Option Int → Option Int → Hp → VK → Prop} {g : G3} {lo hi : Option Expr} {fl fu : FO} {p2 : Pos} (hr : SlR X r) (sm : Sim3 G r g) (he : SE G X Wx e f) (hl : SO G X Wx lo fl) (hu : SO G X Wx hi fu) :
    SE G X Wx (.Subscript e (.Slice lo hi none p2) pos) (fSl g f fl fu) := by
  refine PEw (pe_slice hr he hl hu) fun s H Q q => ?_
  obtain ⟨fm, h, r, h', io, e, E, S, p⟩ := q
  refine cG_step E S e p fun a h1 e1 io1 H1 v x1 E1 rv => ?_
  refine cG_step E1 (S.ext x1) e1 (p.ext x1) fun b h2 e2 io2 H2 u x2 E2 ru => ?_
  cases (show b = u from ru)
  refine cG_step E2 (S.ext (x1.trans x2)) e2 (p.ext (x1.trans x2)) fun c h3 e3 io3 H3 w x3 E3 rw_ => ?_
  cases (show c = w from rw_)
  obtain ⟨w', e4, rfl⟩ := retM_cases e3
  exact sm _ _ _ _ _ _ e4 io3 H3 v Q E3 ((rv.ext x2).ext x3) fun io' H' x' E' => p io' H' (((x1.trans x2).trans x3).trans x') E'
end
end Tw

namespace Tw
open PySem PySem.Spec PyProof.Rows L2

section
variable {G : Gm} {X : Cx} {Wx : WX}
/-! ### dicts with numbers as keys -/
def dget (k : Int) : List (Int × W) → Option W
  | [] => none
  | (a, w) :: r => if a = k then some w else dget k r
def ddrop (k : Int) : List (Int × W) → List (Int × W)
  | [] => []
  | (a, w) :: r => if a = k then ddrop k r else (a, w) :: ddrop k r
section
variable {K : PySem.W.Frag} {ad : Nat → Option Addr} {H : Hp}
theorem kvR.len : ∀ {k : List (Int × W)} {k' : List (Key × V)}, kvR K ad H k k' → k.length = k'.length
  | _, _, .nil => rfl
  | _, _, .cons _ t => by simp only [List.length_cons, kvR.len t]
theorem dget_r {n : Int} : ∀ {k : List (Int × W)} {k' : List (Key × V)}, kvR K ad H k k' → (∀ w, dget n k = some w → ∃ v, valV k' (Sum.inl n) = some v ∧ RW K ad H w v) ∧ (dget n k = none → valV k' (Sum.inl n) = none)
  | _, _, .nil => ⟨fun w e => by simp [dget] at e, fun _ => valV_nil⟩
  | (a, w) :: k, (b, v) :: k', .cons h t => by
    obtain ⟨hb, rv⟩ := h
    simp only at hb rv
    subst hb
    obtain ⟨i1, i2⟩ := dget_r (n := n) t
    unfold dget
    by_cases q : a = n
    · subst q
      rw [if_pos rfl]
      exact ⟨fun w' e => by cases e; exact ⟨v, valV_pos rfl, rv⟩, fun e => by cases e⟩
    · rw [if_neg q]
      have ne : ¬ ((Sum.inl a : Key), v).1 = Sum.inl n := fun z => q (Sum.inl.inj z)
      rw [valV_neg ne]
      exact ⟨i1, i2⟩
theorem putK_cons_eq {k : Key} {p : Key × V} {r : List (Key × V)} {v : V} (h : p.1 = k) (nd : ((p :: r).map (·.1)).Nodup) : putK (p :: r) k v = (p.1, v) :: r := by
  have h1 : ((p :: r).any fun kv => decide (kv.1 = k)) = true := by rw [List.any_cons, decide_eq_true h]; rfl
  unfold putK
  rw [if_pos h1, List.map_cons, if_pos h]
  have h2 : r.map (fun kv => if kv.1 = k then (kv.1, v) else kv) = r := by
    rw [List.map_cons, List.nodup_cons] at nd
    have : ∀ kv ∈ r, (if kv.1 = k then (kv.1, v) else kv) = kv := fun kv hk => by
      rw [if_neg]
      intro z
      exact nd.1 (List.mem_map.mpr ⟨kv, hk, by rw [z, h]⟩)
    exact (List.map_congr_left this).trans (List.map_id' r)
  rw [h2]
theorem putK_cons_ne {k : Key} {p : Key × V} {r : List (Key × V)} {v : V} (h : ¬ p.1 = k) : putK (p :: r) k v = p :: putK r k v := by
  unfold putK
  have h1 : ((p :: r).any fun kv => decide (kv.1 = k)) = (r.any fun kv => decide (kv.1 = k)) := by rw [List.any_cons, decide_eq_false h]; rfl
  rw [h1]
  split
  · rw [List.map_cons, if_neg h]
  · rfl
theorem dput_r {n : Int} {w : W} {v : V} (r : RW K ad H w v) : ∀ {k : List (Int × W)} {k' : List (Key × V)}, kvR K ad H k k' → dget n k = none → kvR K ad H (k ++ [(n, w)]) (putK k' (Sum.inl n) v)
  | _, _, .nil, _ => .cons ⟨rfl, r⟩ .nil
  | (a, u) :: k, (b, x) :: k', .cons h t, e => by
    have hb : b = Sum.inl a := h.1
    unfold dget at e
    by_cases q : a = n
    · rw [if_pos q] at e; cases e
    · rw [if_neg q] at e
      rw [putK_cons_ne (fun z => q (by rw [show (b, x).1 = Sum.inl a from hb] at z; exact Sum.inl.inj z))]
      exact .cons h (dput_r r t e)
theorem ddrop_r {n : Int} : ∀ {k : List (Int × W)} {k' : List (Key × V)}, kvR K ad H k k' → kvR K ad H (ddrop n k) (dropK k' (Sum.inl n))
  | _, _, .nil => .nil
  | (a, u) :: k, (b, x) :: k', .cons h t => by
    have hb : b = Sum.inl a := h.1
    subst hb
    unfold ddrop dropK
    by_cases q : a = n
    · subst q
      rw [if_pos rfl, List.filter_cons_of_neg (by simp)]
      exact ddrop_r t
    · have ne : (Sum.inl a : Key) ≠ Sum.inl n := fun z => q (Sum.inl.inj z)
      rw [if_neg q, List.filter_cons_of_pos (by simpa using ne)]
      exact .cons h (ddrop_r t)
end
@[simp] def dctOf (h : VH) : W → Option (Nat × List (Int × W))
  | .ref n => match h[n]? with
    | some (.pl (.dct kvs)) => some (n, kvs)
    | _ => none
  | _ => none
theorem dctOf_r {io : List (List Addr)} {h : VH} {H : Hp} {w : W} {v : V} {n : Nat} {k : List (Int × W)} (E : Emb G io h H) (e : dctOf h w = some (n, k)) (r : RW G.K (adr io) H w v) : ∃ a k', v = .ref a ∧ h[n]? = some (.pl (.dct k)) ∧ io[n]? = some [a] ∧ H a = some (.dK k') ∧ kvR G.K (adr io) H k k' := by
  unfold dctOf at e
  split at e
  · split at e
    · rename_i hn
      cases e
      obtain ⟨a, rfl, ei, k', hv, rv⟩ := E.ref hn r
      exact ⟨a, k', rfl, hn, ei, hv, rv⟩
    · cases e
  · cases e
variable {a b o i value : Expr} {fa fb fo fi fv : FE} {pos : Pos}
/-- k in d -/
@[simp] def fDin (neg : Bool) (fk fd : FE) : FE := fun fm h => bindM (fk fm h) fun k h1 => bindM (fd fm h1) fun d h2 => match k with
  | .int n => (match dctOf h2 d with
    | some (_, kvs) => some (.ok (.bl (if neg then !(dget n kvs).isSome else (dget n kvs).isSome)), h2)
    | none => none)
  | _ => none
theorem dget_DGet {io : List (List Addr)} {h : VH} {H : Hp} {n : Int} {d : W} {x : V} {m : Nat} {kvs : List (Int × W)} (E : Emb G io h H) (e : dctOf h d = some (m, kvs)) (r : RW G.K (adr io) H d x) : ∃ a ov, x = .ref a ∧ DGet H a (.int n) ov ∧ ov.isSome = (dget n kvs).isSome ∧ (∀ w, dget n kvs = some w → ∃ v, ov = some v ∧ RW G.K (adr io) H w v) := by
  obtain ⟨a, k', rfl, _, _, hv, rk⟩ := dctOf_r E e r
  obtain ⟨d1, d2⟩ := dget_r (n := n) rk
  refine ⟨a, _, rfl, DGet.k (k := Sum.inl n) hv, ?_, d1⟩
  cases q : dget n kvs with
  | none => rw [d2 q]; rfl
  | some w =>
    obtain ⟨v, e1, _⟩ := d1 w q
    rw [e1]; rfl
theorem pc_din (hu : X.A.units + 1 < cLine) (hi : SE G X Wx i fi) (ho : SE G X Wx o fo) : PC X .In i o (cE G Wx (fDin false fi fo)) := by
  refine PCw (L2.pc_din hu hi ho) fun s H Q q => ?_
  obtain ⟨fm, h, r, h', io, e, E, S, p⟩ := q
  refine cG_step E S e p fun a h1 e1 io1 H1 v x1 E1 rv => ?_
  refine cG_step E1 (S.ext x1) e1 (p.ext x1) fun b h2 e2 io2 H2 u x2 E2 ru => ?_
  split at e2
  · split at e2
    · rename_i e3
      cases e2; cases rv
      obtain ⟨a, ov, rfl, hg, hs, _⟩ := dget_DGet E2 e3 ru
      exact ⟨a, ov, rfl, hg, by rw [hs]; exact p io2 H2 (x1.trans x2) E2 _ (.bl _)⟩
    · cases e2
  · cases e2
theorem pc_dnotin (hu : X.A.units + 1 < cLine) (hi : SE G X Wx i fi) (ho : SE G X Wx o fo) : PC X .NotIn i o (cE G Wx (fDin true fi fo)) := by
  refine PCw (L2.pc_dnotin hu hi ho) fun s H Q q => ?_
  obtain ⟨fm, h, r, h', io, e, E, S, p⟩ := q
  refine cG_step E S e p fun a h1 e1 io1 H1 v x1 E1 rv => ?_
  refine cG_step E1 (S.ext x1) e1 (p.ext x1) fun b h2 e2 io2 H2 u x2 E2 ru => ?_
  split at e2
  · split at e2
    · rename_i e3
      cases e2; cases rv
      obtain ⟨a, ov, rfl, hg, hs, _⟩ := dget_DGet E2 e3 ru
      exact ⟨a, ov, rfl, hg, by rw [hs]; exact p io2 H2 (x1.trans x2) E2 _ (.bl _)⟩
    · cases e2
  · cases e2
/-- {} -/
@[simp] def fDnew : FE := fun _ h => some (.ok (.ref h.length), h ++ [.pl (.dct [])])
theorem se_dnew : SE G X Wx (.Dict [] [] pos) fDnew := by
  refine PEw pe_dnewK fun s H Q q => ?_
  obtain ⟨fm, h, r, h', io, e, E, S, p⟩ := q
  cases e
  intro q nq
  exact PostW.new (fun io' H' x' E' => p io' H' x' E') E nq trivial ⟨[], upd_same, .nil⟩
/-- d.pop(k) -/
@[simp] def fDpop (fd fk : FE) : FE := fun fm h => bindM (fd fm h) fun d h1 => match dctOf h1 d with
  | some _ => bindM (fk fm h1) fun k h2 => (match k, dctOf h2 d with
    | .int n, some (m, kvs) => (match dget n kvs with
      | some w => some (.ok w, h2.set m (.pl (.dct (ddrop n kvs))))
      | none => none)
    | _, _ => none)
  | none => none
theorem kvR.wr {K : PySem.W.Frag} {a : Addr} {u o : HO} {ad : Nat → Option Addr} {H : Hp} {k : List (Int × W)} {k' : List (Key × V)} (r : kvR K ad H k k') (e : H a = some o) (nt : Mt o) : kvR K ad (upd H a u) k k' :=
  r.mono (fun _ _ z => z) (Stay.some e nt)
theorem se_dpop {apos cpos : Pos} (ho : SE G X Wx o fo) (hi : SE G X Wx i fi) (m : M1 X o "pop" apos i cpos) : SE G X Wx (.Call (.Attribute o "pop" apos) [i] [] cpos) (fDpop fo fi) := by
  refine PEw (pe_dpop1 ho hi m) fun s H Q q => ?_
  obtain ⟨fm, h, r, h', io, e, E, S, p⟩ := q
  refine cG_step E S e p fun a h1 e1 io1 H1 v x1 E1 rv => ?_
  split at e1
  · rename_i e3
    obtain ⟨b, k0, rfl, _, _, hv0, _⟩ := dctOf_r E1 e3 rv
    refine ⟨b, rfl, .inl ⟨k0, .inl hv0⟩, ?_⟩
    refine cG_step E1 (S.ext x1) e1 (p.ext x1) fun k h2 e2 io2 H2 u x2 E2 ru => ?_
    split at e2
    · rename_i e4
      split at e2
      · rename_i w hw
        cases e2; cases ru
        obtain ⟨b', k', eb, hn, ei, hv, rk⟩ := dctOf_r E2 e4 (rv.ext x2)
        cases eb
        obtain ⟨v, e5, rv5⟩ := (dget_r rk).1 w hw
        refine ⟨k', Sum.inl _, v, hv, rfl, e5, ?_⟩
        exact PostW.write (fun io' H' x' E' => p io' H' ((x1.trans x2).trans x') E') E2 hn ei trivial ⟨_, upd_same, (ddrop_r rk).wr hv trivial⟩ rv5
      · cases e2
    · cases e2
  · cases e1

/-! ### dicts of written keys -/
theorem zipK_val : ∀ {fs : List Str} {vs : List V} {j : Nat} {f : Str}, fs.Nodup → fs[j]? = some f → valV (zipK fs vs) (Sum.inr f) = vs[j]?
  | [], _, _, _, _, e => by simp at e
  | g :: gs, [], j, f, _, _ => by simp [zipK, valV]
  | g :: gs, v :: vs, 0, f, _, e => by
    simp at e
    subst e
    show valV (((Sum.inr g : Key), v) :: zipK gs vs) _ = _
    rw [valV_pos rfl]
    rfl
  | g :: gs, v :: vs, j + 1, f, nd, e => by
    have e' : gs[j]? = some f := by simpa using e
    have ne : ¬ (Sum.inr g : Key) = Sum.inr f := fun z => by
      rw [List.nodup_cons] at nd
      exact nd.1 (Sum.inr.inj z ▸ List.mem_of_getElem? e')
    show valV (((Sum.inr g : Key), v) :: zipK gs vs) _ = _
    rw [valV_neg ne, zipK_val (List.nodup_cons.mp nd).2 e']
    rfl
theorem nd_zipK : ∀ {fs : List Str} {vs : List V}, fs.Nodup → ((zipK fs vs).map (·.1)).Nodup
  | [], _, _ => by simp [zipK]
  | g :: gs, [], _ => by simp [zipK]
  | g :: gs, v :: vs, nd => by
    rw [List.nodup_cons] at nd
    show (((Sum.inr g : Key), v) :: zipK gs vs |>.map (·.1)).Nodup
    rw [List.map_cons, List.nodup_cons]
    refine ⟨fun z => ?_, nd_zipK nd.2⟩
    obtain ⟨p, hp, ep⟩ := List.mem_map.mp z
    have : p.1 ∈ gs.map (Sum.inr : Str → Key) := (List.of_mem_zip (show (p.1, p.2) ∈ _ from hp)).1
    rw [ep] at this
    obtain ⟨y, hy, ey⟩ := List.mem_map.mp this
    exact nd.1 (Sum.inr.inj ey ▸ hy)
theorem zipK_put : ∀ {fs : List Str} {vs : List V} {j : Nat} {f : Str} {v : V}, fs.Nodup → fs[j]? = some f → j < vs.length → putK (zipK fs vs) (Sum.inr f) v = zipK fs (vs.set j v)
  | [], _, _, _, _, _, e, _ => by simp at e
  | g :: gs, [], j, f, _, _, _, h => by simp at h
  | g :: gs, v :: vs, 0, f, u, nd, e, _ => by
    simp at e
    subst e
    show putK (((Sum.inr g : Key), v) :: zipK gs vs) _ _ = ((Sum.inr g : Key), u) :: zipK gs vs
    exact putK_cons_eq rfl (nd_zipK (vs := v :: vs) nd)
  | g :: gs, v :: vs, j + 1, f, u, nd, e, h => by
    have e' : gs[j]? = some f := by simpa using e
    have ne : ¬ ((Sum.inr g : Key), v).1 = Sum.inr f := fun z => by
      rw [List.nodup_cons] at nd
      exact nd.1 (Sum.inr.inj z ▸ List.mem_of_getElem? e')
    show putK (((Sum.inr g : Key), v) :: zipK gs vs) _ _ = ((Sum.inr g : Key), v) :: zipK gs (vs.set j u)
    rw [putK_cons_ne ne, zipK_put (List.nodup_cons.mp nd).2 e' (by simpa using h)]
/-- o["key"], the j-th key of the dict kind d -/
@[simp] def fRix (d j : Nat) (fo : FE) : FE := fun fm h => bindM (fo fm h) fun w h1 => match w with
  | .ref n => (match h1[n]? with
    | some (.pl (.rcd d' fs)) => if d' = d then (match fs[j]? with
      | some x => some (.ok x, h1)
      | none => none) else none
    | _ => none)
  | _ => none
theorem se_rix (d j : Nat) {x : Str} {k : Nat} {p1 : Pos} (hu : X.A.units + 1 < cLine) (hx : (G.rk d)[j]? = some x) (ho : SE G X Wx o fo) : SE G X Wx (.Subscript o (.Constant (.str x) k p1) pos) (fRix d j fo) := by
  refine PEw (pe_dget hu ho pe_str (fun _ _ => rfl)) fun s H Q q => ?_
  obtain ⟨fm, h, r, h', io, e, E, S, p⟩ := q
  refine cG_step E S e p fun a h1 e1 io1 H1 v x1 E1 rv => ?_
  split at e1
  · split at e1
    · rename_i n _ c' fs hn
      split at e1
      · rename_i hc
        subst hc
        split at e1
        · rename_i w hw
          cases e1
          obtain ⟨a, rfl, ei, vs, hv, rvs, hl, nd⟩ := E1.ref hn rv
          obtain ⟨u, hu', ru⟩ := rvs.get hw
          refine ⟨a, u, rfl, ?_, p io1 H1 x1 E1 u ru⟩
          have g := DGet.k (k := Sum.inr x) hv
          rw [zipK_val nd hx, hu'] at g
          exact g
        · cases e1
      · cases e1
    · cases e1
  · cases e1
/-- {"k": v, ..} -/
@[simp] def fRnew (d : Nat) (fs : List FE) : FE := fun fm h => bindM (fAll fs fm (h ++ [.pl (.dct [])])) fun ws h1 => match h1[h.length]? with
  | some (.pl (.dct [])) => if ws.length = fs.length then some (.ok (.ref h.length), h1.set h.length (.pl (.rcd d ws))) else none
  | _ => none
inductive SPs (G : Gm) (X : Cx) (Wx : WX) (pos : Pos) : List Str → List (Option Expr) → List Expr → List FE → Prop
  | nil : SPs G X Wx pos [] [] [] []
  | cons {k : Str} {j : Nat} {p1 : Pos} {v : Expr} {f : FE} {ks : List Str} {keys : List (Option Expr)} {vs : List Expr} {fs : List FE} (hv : SE G X Wx v f) (hr : SPs G X Wx pos ks keys vs fs) : SPs G X Wx pos (k :: ks) (some (.Constant (.str k) j p1) :: keys) (v :: vs) (f :: fs)
def trsOf (G : Gm) (Wx : WX) : List Str → List FE → List (TE × TE)
  | k :: ks, f :: fs => (tC (.str k), cE G Wx f) :: trsOf G Wx ks fs
  | _, _ => []
theorem SPs.pps {ks : List Str} {keys : List (Option Expr)} {vs : List Expr} {fs : List FE} (h : SPs G X Wx pos ks keys vs fs) : PPs X pos keys vs (trsOf G Wx ks fs) := by
  induction h with
  | nil => exact pps_nil
  | cons hv hr ih => exact pps_cons pe_str hv ih
theorem SPs.ln {ks : List Str} {keys : List (Option Expr)} {vs : List Expr} {fs : List FE} (h : SPs G X Wx pos ks keys vs fs) : keys.length = vs.length ∧ ks.length = keys.length ∧ fs.length = vs.length ∧ keys.all (·.isSome) = true := by
  induction h with
  | nil => exact ⟨rfl, rfl, rfl, rfl⟩
  | cons hv hr ih =>
    obtain ⟨h1, h2, h3, h4⟩ := ih
    simp [h1, h2, h3]
    simpa using h4
theorem pairs_read : ∀ {ks : List Str} {fs : List FE} {s : L2.St} {H : Hp} {R : List (V × V) → Hp → Prop}, ks.length = fs.length → cA G Wx (fAll fs) s H (fun vs H1 => R ((ks.map V.str).zip vs) H1) → tPairs (trsOf G Wx ks fs) s H R
  | [], [], s, H, R, _, q => by
    obtain ⟨fm, h, r, h', io, e, E, S, p⟩ := q
    cases e
    exact p.now E .nil
  | k :: ks, f :: fs, s, H, R, hl, q => by
    have q' := cons_read q
    show tC (.str k) s H fun x H1 => cE G Wx f s H1 fun y H2 => tPairs (trsOf G Wx ks fs) s H2 fun ps H3 => R ((x, y) :: ps) H3
    show cE G Wx f s H fun y H2 => tPairs (trsOf G Wx ks fs) s H2 fun ps H3 => R ((V.str k, y) :: ps) H3
    obtain ⟨fm, h, r, h', io, e, E, S, p⟩ := q'
    exact ⟨fm, h, r, h', io, e, E, S, fun io' H' x' E' => by
      have z := p io' H' x' E'
      cases r with
      | ex c => exact z
      | ok w => exact fun v rv => pairs_read (by simpa using hl) (z v rv)⟩
  | [], _ :: _, _, _, _, hl, _ => by simp at hl
  | _ :: _, [], _, _, _, hl, _ => by simp at hl
theorem mergeK_zip : ∀ {fs : List Str} {vs : List V} {acc : List (Key × V)}, fs.Nodup → (∀ f ∈ fs, (Sum.inr f : Key) ∉ acc.map (·.1)) → mergeK acc (zipK fs vs) = acc ++ zipK fs vs
  | [], vs, acc, _, _ => by simp [zipK, mergeK]
  | g :: gs, [], acc, _, _ => by simp [zipK, mergeK]
  | g :: gs, v :: vs, acc, nd, h => by
    have h0 : (acc.any fun kv => decide (kv.1 = (Sum.inr g : Key))) = false := by
      rw [Bool.eq_false_iff]
      intro z
      obtain ⟨p, hp, ep⟩ := List.any_eq_true.mp z
      exact h g List.mem_cons_self (List.mem_map.mpr ⟨p, hp, of_decide_eq_true ep⟩)
    have h1 : putK acc (Sum.inr g) v = acc ++ [(Sum.inr g, v)] := by unfold putK; rw [h0]; rfl
    have nd' := List.nodup_cons.mp nd
    have ih := mergeK_zip (fs := gs) (vs := vs) (acc := acc ++ [(Sum.inr g, v)]) nd'.2 fun f hf z => by
      rw [List.map_append, List.mem_append] at z
      rcases z with z | z
      · exact h f (List.mem_cons_of_mem _ hf) z
      · simp at z
        exact nd'.1 (z ▸ hf)
    show List.foldl _ (putK acc (Sum.inr g) v) (zipK gs vs) = _
    rw [h1]
    show mergeK (acc ++ [(Sum.inr g, v)]) (zipK gs vs) = _
    rw [ih, List.append_assoc]
    rfl
theorem zipK_kV : ∀ (ks : List Str) (us : List V), (ks.map V.str).zip us = (zipK ks us).map (fun kv => (kV kv.1, kv.2))
  | [], _ => rfl
  | k :: ks, [] => rfl
  | k :: ks, u :: us => by
    have ih := zipK_kV ks us
    show (V.str k, u) :: (ks.map V.str).zip us = (kV (Sum.inr k), u) :: (zipK ks us).map (fun kv => (kV kv.1, kv.2))
    rw [ih]
    rfl
theorem se_rnew (d : Nat) {ks : List Str} {keys : List (Option Expr)} {vs : List Expr} {fs : List FE} (hk : G.rk d = ks) (nd : ks.Nodup) (h : SPs G X Wx pos ks keys vs fs) (h0 : keys ≠ []) (h15 : keys.length ≤ 15) : SE G X Wx (.Dict keys vs pos) (fRnew d fs) := by
  obtain ⟨l1, l2, l3, l4⟩ := h.ln
  refine PEw (pe_disp h.pps l4 l1 h0 h15) fun s H Q q => ?_
  obtain ⟨fm, h, r, h', io, e, E, S, p⟩ := q
  intro a na
  obtain ⟨E1, x1⟩ := E.alloc (q := .dct []) (o := .dK []) na trivial ⟨[], upd_same, .nil⟩
  refine pairs_read (by omega) ?_
  refine cG_step E1 (S.ext x1) e (p.ext x1) fun ws h2 e2 io2 H2 us x2 E2 rus => ?_
  split at e2
  · rename_i hn
    split at e2
    · rename_i hlen
      cases e2
      obtain ⟨b, e3, e4, k', hv, rk⟩ := E2.pl hn
      have hb : b = a := by
        have := x2.root h.length a (by rw [← E.len]; exact adr_new)
        rw [this] at e4
        cases e4; rfl
      subst hb
      cases rk
      have hl : us.length = ks.length := by
        have := rus.length
        omega
      refine ⟨hv, zipK ks us, ?_, ?_, ?_⟩
      · exact zipK_kV ks us
      · unfold zipK
        rw [List.length_zip, List.length_map]
        omega
      · rw [mergeK_zip nd (by simp), List.nil_append]
        refine PostW.write (w := .ref h.length) (fun io' H' x' E' => p io' H' ((x1.trans x2).trans x') E') E2 hn e3 trivial ⟨us, by rw [hk]; exact upd_same, rus.wr hv trivial, by rw [hk]; omega, by rw [hk]; exact nd⟩ (.ref e4)
    · cases e2
  · cases e2
end
end Tw

namespace Tw
open PySem PySem.Spec PyProof.Rows L2

section
variable {G : Gm} {X : Cx} {Wx : WX} {e o : Expr} {es : List Expr} {f fo : FE} {fs : List FE} {pos p apos : Pos} {x : Str}
/-! ### built-ins -/
@[simp] def fCB (g : List W → VH → Option (W × VH)) (fs : List FE) : FE := fun fm h => bindM (fAll fs fm h) fun ws h1 => retM (g ws h1)
theorem cb_read {r : List V → Hp → VK → Prop} {g : List W → VH → Option (W × VH)} (sm : SimA G r g) {s : L2.St} {H : Hp} {Q : VK} (q : cE G Wx (fCB g fs) s H Q) : tCB r (cA G Wx (fAll fs)) s H Q := by
  obtain ⟨fm, h, r, h', io, e, E, S, p⟩ := q
  refine cG_step E S e p fun a h1 e1 io1 H1 v x1 E1 rv => ?_
  obtain ⟨w, e3, rfl⟩ := retM_cases e1
  exact sm _ _ _ _ e3 io1 H1 v Q E1 rv fun io' H' x' E' => p io' H' (x1.trans x') E'
theorem se_cb {id : String} {r : List V → Hp → VK → Prop} {g : List W → VH → Option (W × VH)} (hc : CallR X (.builtin id) r) (sm : SimA G r g) (hg : Gl X x) (hm : X.mg x = none) (hv : bootBuiltins x = some (.builtin id)) (ha : SA G X Wx (e :: es) (fAll fs)) (hn : x ≠ "__name__" := by decide) (hdb : (x == ("__debug__" : Str)) = false := by decide)
    (he : starEach (e :: es) X.env = (false, eval e X.env) :: starEach es X.env := by rfl) (hpl : (backTo pos (starEach es X.env)).any (·.1) = false := by rfl) : SE G X Wx (.Call (.Name x p) (e :: es) [] pos) (fCB g fs) :=
  PEw (pe_callB hc hg hm hv ha hn hdb he hpl) fun _ _ _ q => cb_read sm q
theorem se_ct {T : String} {r : List V → Hp → VK → Prop} {g : List W → VH → Option (W × VH)} (hc : CallR X (.type T) r) (sm : SimA G r g) (hg : Gl X x) (hm : X.mg x = none) (hv : bootBuiltins x = some (.type T)) (ha : SA G X Wx (e :: es) (fAll fs)) (hn : x ≠ "__name__" := by decide) (hdb : (x == ("__debug__" : Str)) = false := by decide)
    (he : starEach (e :: es) X.env = (false, eval e X.env) :: starEach es X.env := by rfl) (hpl : (backTo pos (starEach es X.env)).any (·.1) = false := by rfl) : SE G X Wx (.Call (.Name x p) (e :: es) [] pos) (fCB g fs) :=
  PEw (pe_callTy hc hg hm hv ha hn hdb he hpl) fun _ _ _ q => cb_read sm q
theorem rws1 {K : PySem.W.Frag} {ad : Nat → Option Addr} {H : Hp} {a : W} {x : List V} (r : RWs K ad H [a] x) : ∃ v, x = [v] ∧ RW K ad H a v := by
  cases r with
  | cons h t => cases t; exact ⟨_, rfl, h⟩
theorem rws2 {K : PySem.W.Frag} {ad : Nat → Option Addr} {H : Hp} {a b : W} {x : List V} (r : RWs K ad H [a, b] x) : ∃ v u, x = [v, u] ∧ RW K ad H a v ∧ RW K ad H b u := by
  cases r with
  | cons h t =>
    obtain ⟨u, rfl, h2⟩ := rws1 t
    exact ⟨_, _, rfl, h, h2⟩
@[simp] def gLen : List W → VH → Option (W × VH) := fun ws h => match ws with
  | [.str z] => if z.length ≤ sizeLine then some (.int z.length, h) else none
  | [w] => (match seqAt h w with
    | some xs => some (.int xs.length, h)
    | none => none)
  | _ => none
def rLenW (K : PySem.W.Frag) : List V → Hp → VK → Prop := fun xs H Q => (∃ p ys, xs = [.ref p] ∧ (SqL K H p ys ∨ SqT K H p ys) ∧ Q (.int ys.length) H) ∨ ∃ z, xs = [.str z] ∧ z.length ≤ sizeLine ∧ Q (.int z.length) H
theorem cr_lenW : CallR X (.builtin "len") (rLenW X.K) := call_len_seq.or call_len_str
theorem sim_len : SimA G (rLenW G.K) gLen := by
  intro a h w h' e io H x Q E ra p
  unfold gLen at e
  split at e
  · split at e
    · cases e
      obtain ⟨v, rfl, rv⟩ := rws1 ra
      cases rv
      exact .inr ⟨_, rfl, by assumption, p.here E (.int _)⟩
    · cases e
  · split at e
    · rename_i xs e1
      cases e
      obtain ⟨v, rfl, rv⟩ := rws1 ra
      obtain ⟨b, vs, rfl, hv, rvs⟩ := seqAt_r E e1 rv
      exact .inl ⟨b, vs, rfl, hv, by rw [← rvs.length]; exact p.here E (.int _)⟩
    · cases e
  · cases e
@[simp] def gList : List W → VH → Option (W × VH) := fun ws h => match ws with
  | [w] => (match seqAt h w with
    | some xs => some (.ref h.length, h ++ [.pl (.lst xs)])
    | none => none)
  | _ => none
theorem sim_list : SimA G (fun xs H Q => ∃ p ys, xs = [.ref p] ∧ (SqL G.K H p ys ∨ SqT G.K H p ys) ∧ ∀ l, H l = none → Q (.ref l) (upd H l (.lst ys))) gList := by
  intro a h w h' e io H x Q E ra p
  unfold gList at e
  split at e
  · split at e
    · rename_i xs e1
      cases e
      obtain ⟨v, rfl, rv⟩ := rws1 ra
      obtain ⟨b, vs, rfl, hv, rvs⟩ := seqAt_r E e1 rv
      exact ⟨b, vs, rfl, hv, fun l nl => p.newL E nl rvs⟩
    · cases e
  · cases e
@[simp] def gAbs : List W → VH → Option (W × VH) := fun ws h => match ws with
  | [.int i] => some (.int (if i < 0 then -i else i), h)
  | _ => none
theorem sim_abs : SimA G (fun xs H Q => ∃ i, xs = [V.int i] ∧ Q (.int (if i < 0 then -i else i)) H) gAbs := by
  intro a h w h' e io H x Q E ra p
  unfold gAbs at e
  split at e
  · cases e
    obtain ⟨v, rfl, rv⟩ := rws1 ra
    cases rv
    exact ⟨_, rfl, p.here E (.int _)⟩
  · cases e
@[simp] def gMax : List W → VH → Option (W × VH) := fun ws h => match ws with
  | [.int i, .int j] => some (.int (if j > i then j else i), h)
  | _ => none
@[simp] def gMin : List W → VH → Option (W × VH) := fun ws h => match ws with
  | [.int i, .int j] => some (.int (if j < i then j else i), h)
  | _ => none
theorem sim_max : SimA G (fun xs H Q => ∃ i j, xs = [V.int i, V.int j] ∧ Q (.int (if j > i then j else i)) H) gMax := by
  intro a h w h' e io H x Q E ra p
  unfold gMax at e
  split at e
  · cases e
    obtain ⟨v, u, rfl, rv, ru⟩ := rws2 ra
    cases rv; cases ru
    exact ⟨_, _, rfl, p.here E (.int _)⟩
  · cases e
theorem sim_min : SimA G (fun xs H Q => ∃ i j, xs = [V.int i, V.int j] ∧ Q (.int (if j < i then j else i)) H) gMin := by
  intro a h w h' e io H x Q E ra p
  unfold gMin at e
  split at e
  · cases e
    obtain ⟨v, u, rfl, rv, ru⟩ := rws2 ra
    cases rv; cases ru
    exact ⟨_, _, rfl, p.here E (.int _)⟩
  · cases e
/-- a list of ints, of bools -/
def intsW : List W → Option (List Int)
  | [] => some []
  | .int i :: r => (match intsW r with
    | some ns => some (i :: ns)
    | none => none)
  | _ => none
theorem intsW_map : ∀ {xs : List W} {ns : List Int}, intsW xs = some ns → xs = ns.map W.int
  | [], _, e => by cases e; rfl
  | .int i :: r, ns, e => by
    unfold intsW at e
    split at e
    · rename_i ms em
      cases e
      rw [intsW_map em]; rfl
    · cases e
  | .non :: _, _, e => by simp [intsW] at e
  | .bl _ :: _, _, e => by simp [intsW] at e
  | .str _ :: _, _, e => by simp [intsW] at e
  | .tup _ :: _, _, e => by simp [intsW] at e
  | .ref _ :: _, _, e => by simp [intsW] at e
  | .rl _ :: _, _, e => by simp [intsW] at e
def blsW : List W → Option (List Bool)
  | [] => some []
  | .bl i :: r => (match blsW r with
    | some ns => some (i :: ns)
    | none => none)
  | _ => none
theorem blsW_map : ∀ {xs : List W} {ns : List Bool}, blsW xs = some ns → xs = ns.map W.bl
  | [], _, e => by cases e; rfl
  | .bl i :: r, ns, e => by
    unfold blsW at e
    split at e
    · rename_i ms em
      cases e
      rw [blsW_map em]; rfl
    · cases e
  | .non :: _, _, e => by simp [blsW] at e
  | .int _ :: _, _, e => by simp [blsW] at e
  | .str _ :: _, _, e => by simp [blsW] at e
  | .tup _ :: _, _, e => by simp [blsW] at e
  | .ref _ :: _, _, e => by simp [blsW] at e
  | .rl _ :: _, _, e => by simp [blsW] at e
@[simp] def gSum : List W → VH → Option (W × VH) := fun ws h => match ws with
  | [w] => (match lstAt h w with
    | some xs => (match intsW xs with
      | some ns => some (.int ns.sum, h)
      | none => none)
    | none => none)
  | _ => none
theorem sim_sum : SimA G (rSum G.K) gSum := by
  intro a h w h' e io H x Q E ra p
  unfold gSum at e
  split at e
  · split at e
    · rename_i xs e1
      split at e
      · rename_i ns e2
        cases e
        obtain ⟨v, rfl, rv⟩ := rws1 ra
        obtain ⟨b, vs, rfl, hv, rvs⟩ := lstAt_r E e1 rv
        rw [intsW_map e2] at rvs
        rw [rvs.ints] at hv
        exact ⟨b, ns, rfl, hv, p.here E (.int _)⟩
      · cases e
    · cases e
  · cases e
@[simp] def gAll : List W → VH → Option (W × VH) := fun ws h => match ws with
  | [w] => (match lstAt h w with
    | some xs => (match blsW xs with
      | some ns => some (.bl (ns.all id), h)
      | none => none)
    | none => none)
  | _ => none
@[simp] def gAny : List W → VH → Option (W × VH) := fun ws h => match ws with
  | [w] => (match lstAt h w with
    | some xs => (match blsW xs with
      | some ns => some (.bl (ns.any id), h)
      | none => none)
    | none => none)
  | _ => none
theorem sim_all : SimA G (rAll G.K) gAll := by
  intro a h w h' e io H x Q E ra p
  unfold gAll at e
  split at e
  · split at e
    · rename_i xs e1
      split at e
      · rename_i ns e2
        cases e
        obtain ⟨v, rfl, rv⟩ := rws1 ra
        obtain ⟨b, vs, rfl, hv, rvs⟩ := lstAt_r E e1 rv
        rw [blsW_map e2] at rvs
        rw [rvs.bls] at hv
        exact ⟨b, ns, rfl, hv, p.here E (.bl _)⟩
      · cases e
    · cases e
  · cases e
theorem sim_any : SimA G (rAny G.K) gAny := by
  intro a h w h' e io H x Q E ra p
  unfold gAny at e
  split at e
  · split at e
    · rename_i xs e1
      split at e
      · rename_i ns e2
        cases e
        obtain ⟨v, rfl, rv⟩ := rws1 ra
        obtain ⟨b, vs, rfl, hv, rvs⟩ := lstAt_r E e1 rv
        rw [blsW_map e2] at rvs
        rw [rvs.bls] at hv
        exact ⟨b, ns, rfl, hv, p.here E (.bl _)⟩
      · cases e
    · cases e
  · cases e
/-! ### list(range(..)) -/
def rgW (a b : Int) : List W := (List.range (b - a).toNat).map fun i => W.int (a + (i : Nat))
theorem rgW_r {K : PySem.W.Frag} {ad : Nat → Option Addr} {H : Hp} (a b : Int) : RWs K ad H (rgW a b) (rgV a b) := by
  unfold rgW rgV
  generalize List.range (b - a).toNat = l
  induction l with
  | nil => exact .nil
  | cons i l ih => exact .cons (.int _) ih
def rgOk (a b : Int) : Bool := decide (-(2 ^ 62) ≤ a) && decide (a < 2 ^ 62) && decide (-(2 ^ 62) ≤ b) && decide (b < 2 ^ 62) && decide ((b - a).toNat ≤ 2 ^ 24)
theorem rgOk_ok {a b : Int} (h : rgOk a b = true) : RgOk a b := by
  unfold rgOk at h
  simp only [Bool.and_eq_true, decide_eq_true_eq] at h
  exact ⟨h.1.1.1.1, h.1.1.1.2, h.1.1.2, h.1.2, h.2⟩
@[simp] def fLrg2 (fa fb : FE) : FE := fun fm h => bindM (fa fm h) fun a h1 => bindM (fb fm h1) fun b h2 => match a, b with
  | .int i, .int j => if rgOk i j = true then some (.ok (.ref h2.length), h2 ++ [.pl (.lst (rgW i j))]) else none
  | _, _ => none
@[simp] def fLrg1 (fa : FE) : FE := fun fm h => bindM (fa fm h) fun a h1 => match a with
  | .int j => if rgOk 0 j = true then some (.ok (.ref h1.length), h1 ++ [.pl (.lst (rgW 0 j))]) else none
  | _ => none
theorem se_lrg2 {a b : Expr} {fa fb : FE} {p1 p2 : Pos} (hc : X.calm = true) (hg : Gl X "list") (hm : X.mg "list" = none) (hg2 : Gl X "range") (hm2 : X.mg "range" = none) (ha : SE G X Wx a fa) (hb : SE G X Wx b fb)
    (na1 : starEach [a, b] X.env = (false, eval a X.env) :: starEach [b] X.env := by rfl) (nb1 : starEach [b] X.env = (false, eval b X.env) :: starEach [] X.env := by rfl) (hp1 : (backTo p2 (starEach [b] X.env)).any (·.1) = false := by rfl)
    (na : starEach [.Call (.Name "range" p1) [a, b] [] p2] X.env = (false, eval (.Call (.Name "range" p1) [a, b] [] p2) X.env) :: starEach [] X.env := by rfl) :
    SE G X Wx (.Call (.Name "list" p) [.Call (.Name "range" p1) [a, b] [] p2] [] pos) (fLrg2 fa fb) := by
  refine PEw (pe_listRg hc hg hm (prg_2 hg2 hm2 ha hb na1 nb1 hp1) na) fun s H Q q => ?_
  obtain ⟨fm, h, r, h', io, e, E, S, p⟩ := q
  refine cG_step E S e p fun a h1 e1 io1 H1 v x1 E1 rv => ?_
  refine cG_step E1 (S.ext x1) e1 (p.ext x1) fun b h2 e2 io2 H2 u x2 E2 ru => ?_
  split at e2
  · split at e2
    · cases e2; cases rv; cases ru
      exact ⟨_, _, rfl, rfl, rgOk_ok (by assumption), fun q nq => PostW.newL (fun io' H' x' E' => p io' H' ((x1.trans x2).trans x') E') E2 nq (rgW_r _ _)⟩
    · cases e2
  · cases e2
theorem se_lrg1 {a : Expr} {fa : FE} {p1 p2 : Pos} (hc : X.calm = true) (hg : Gl X "list") (hm : X.mg "list" = none) (hg2 : Gl X "range") (hm2 : X.mg "range" = none) (ha : SE G X Wx a fa)
    (na1 : starEach [a] X.env = (false, eval a X.env) :: starEach [] X.env := by rfl)
    (na : starEach [.Call (.Name "range" p1) [a] [] p2] X.env = (false, eval (.Call (.Name "range" p1) [a] [] p2) X.env) :: starEach [] X.env := by rfl) :
    SE G X Wx (.Call (.Name "list" p) [.Call (.Name "range" p1) [a] [] p2] [] pos) (fLrg1 fa) := by
  refine PEw (pe_listRg hc hg hm (prg_1 hg2 hm2 ha na1) na) fun s H Q q => ?_
  obtain ⟨fm, h, r, h', io, e, E, S, p⟩ := q
  refine cG_step E S e p fun a h1 e1 io1 H1 v x1 E1 rv => ?_
  split at e1
  · split at e1
    · cases e1; cases rv
      exact ⟨_, rfl, rgOk_ok (by assumption), fun q nq => PostW.newL (fun io' H' x' E' => p io' H' (x1.trans x') E') E1 nq (rgW_r _ _)⟩
    · cases e1
  · cases e1
/-! ### methods of lists -/
abbrev GM := W → List W → VH → Option (W × VH)
def SimM (G : Gm) (r : V → List V → Hp → VK → Prop) (g : GM) : Prop := ∀ a ws h w h', g a ws h = some (w, h') → ∀ io H x vs Q, Emb G io h H → RW G.K (adr io) H a x → RWs G.K (adr io) H ws vs → PostW G io H w h' Q → r x vs H Q
@[simp] def fLM (g : GM) (fo : FE) (fs : List FE) : FE := fun fm h => bindM (fo fm h) fun a h1 => match lstAt h1 a with
  | some _ => bindM (fAll fs fm h1) fun ws h2 => retM (g a ws h2)
  | none => none
theorem se_lm {name : Str} {id : String} {r : V → List V → Hp → VK → Prop} {g : GM} {cpos : Pos} (slot : Slot "list" name id) (hty : typeOf (.builtin id) = pure (.type "method_descriptor")) (hm : MtR X id r) (sm : SimM G r g) (hK : X.K = G.K) (ho : SE G X Wx o fo) (ha : SA G X Wx (e :: es) (fAll fs))
    (hbase : attributeBase o name X.env (eval o X.env) = eval o X.env := by rfl)
    (hfew : ((backTo cpos (starEach (e :: es) X.env)).all (fun x => !x.1) && (backToKw cpos (keywordEach [] X.env)).all (fun x => x.1.isSome)
      && decide ((e :: es).length + ([] : List Keyword).length + (if ([] : List Keyword).isEmpty then 0 else 1) < 30)) = true := by rfl)
    (hline : (apos.endLine == cpos.line) = true := by rfl) (hs : starEach (e :: es) X.env = (false, eval e X.env) :: starEach es X.env := by rfl) (hplain : (backTo cpos (starEach es X.env)).any (·.1) = false := by rfl) :
    SE G X Wx (.Call (.Attribute o name apos) (e :: es) [] cpos) (fLM g fo fs) := by
  refine PEw (pe_bm PySem.F.plainAttrs_list slot hty hm ho ha hbase hfew hline hs hplain) fun s H Q q => ?_
  obtain ⟨fm, h, r, h', io, e, E, S, p⟩ := q
  refine cG_step E S e p fun a h1 e1 io1 H1 v x1 E1 rv => ?_
  split at e1
  · rename_i xs e0
    obtain ⟨b, vs, rfl, hv, rvs⟩ := lstAt_r E1 e0 rv
    refine ⟨.inl ⟨rfl, vs, by rw [hK]; exact hv⟩, ?_⟩
    refine cG_step E1 (S.ext x1) e1 (p.ext x1) fun ws h2 e2 io2 H2 us x2 E2 rus => ?_
    obtain ⟨w, e3, rfl⟩ := retM_cases e2
    exact sm _ _ _ _ _ e3 io2 H2 _ us Q E2 (rv.ext x2) rus fun io' H' x' E' => p io' H' ((x1.trans x2).trans x') E'
  · cases e1
theorem se_lm0 {name : Str} {id : String} {r : V → List V → Hp → VK → Prop} {g : GM} {cpos : Pos} (slot : Slot "list" name id) (hty : typeOf (.builtin id) = pure (.type "method_descriptor")) (hm : MtR X id r) (sm : SimM G r g) (hK : X.K = G.K) (ho : SE G X Wx o fo)
    (hbase : attributeBase o name X.env (eval o X.env) = eval o X.env := by rfl) (hline : (apos.endLine == cpos.line) = true := by rfl) : SE G X Wx (.Call (.Attribute o name apos) [] [] cpos) (fLM g fo []) := by
  refine PEw (pe_bm0 PySem.F.plainAttrs_list slot hty hm ho hbase hline) fun s H Q q => ?_
  obtain ⟨fm, h, r, h', io, e, E, S, p⟩ := q
  refine cG_step E S e p fun a h1 e1 io1 H1 v x1 E1 rv => ?_
  split at e1
  · rename_i xs e0
    obtain ⟨b, vs, rfl, hv, rvs⟩ := lstAt_r E1 e0 rv
    refine ⟨.inl ⟨rfl, vs, by rw [hK]; exact hv⟩, ?_⟩
    obtain ⟨w, e3, rfl⟩ := retM_cases (show retM (g a [] h1) = some (r, h') from e1)
    exact sm _ _ _ _ _ e3 io1 H1 _ [] Q E1 rv .nil fun io' H' x' E' => p io' H' (x1.trans x') E'
  · cases e1
@[simp] def gApp : GM := fun a ws h => match ws, lstOf h a with
  | [w], some (n, xs) => if xs.length < sizeLine then some (.non, h.set n (.pl (.lst (xs ++ [w])))) else none
  | _, _ => none
theorem sim_app : SimM G rAppend gApp := by
  intro a ws h w h' e io H x vs Q E ra rs p
  unfold gApp at e
  split at e
  · rename_i e1
    split at e
    · cases e
      obtain ⟨u, rfl, ru⟩ := rws1 rs
      obtain ⟨b, us, rfl, hn, ei, hv, rvs⟩ := lstOf_r E e1 ra
      refine ⟨b, us, u, rfl, rfl, hv, by rw [← rvs.length]; assumption, ?_⟩
      exact p.write E hn ei trivial ⟨_, upd_same, (rvs.append (.cons ru .nil)).wr hv trivial⟩ .non
    · cases e
  · cases e
@[simp] def gPop : GM := fun a ws h => match ws, lstOf h a with
  | [], some (n, xs) => (match xs[xs.length - 1]? with
    | some y => some (y, h.set n (.pl (.lst xs.dropLast)))
    | none => none)
  | _, _ => none
theorem RWs.dropL {K : PySem.W.Frag} {ad : Nat → Option Addr} {H : Hp} {xs : List W} {vs : List V} (r : RWs K ad H xs vs) : RWs K ad H xs.dropLast vs.dropLast := by
  rw [List.dropLast_eq_take, List.dropLast_eq_take, ← r.length]
  exact r.take _
theorem sim_pop : SimM G rPop gPop := by
  intro a ws h w h' e io H x vs Q E ra rs p
  unfold gPop at e
  split at e
  · rename_i e1
    split at e
    · rename_i y hy
      cases e; cases rs
      obtain ⟨b, us, rfl, hn, ei, hv, rvs⟩ := lstOf_r E e1 ra
      obtain ⟨u, hu, ru⟩ := rvs.get hy
      refine ⟨b, us, u, rfl, rfl, hv, by rw [← rvs.length]; exact hu, ?_⟩
      exact p.write E hn ei trivial ⟨_, upd_same, rvs.dropL.wr hv trivial⟩ ru
    · cases e
  · cases e
@[simp] def gPopAt : GM := fun a ws h => match ws, lstOf h a with
  | [.int i], some (n, xs) => if 0 ≤ i ∧ i < xs.length ∧ i < 2 ^ 63 then (match xs[i.toNat]? with
    | some y => some (y, h.set n (.pl (.lst (xs.eraseIdx i.toNat))))
    | none => none) else none
  | _, _ => none
theorem sim_popAt : SimM G rPopAt gPopAt := by
  intro a ws h w h' e io H x vs Q E ra rs p
  unfold gPopAt at e
  split at e
  · rename_i i n xs e1
    split at e
    · rename_i hc
      split at e
      · rename_i y hy
        cases e
        obtain ⟨u, rfl, ru⟩ := rws1 rs
        cases ru
        obtain ⟨b, us, rfl, hn, ei, hv, rvs⟩ := lstOf_r E e1 ra
        obtain ⟨u, hu, ru⟩ := rvs.get hy
        have hs : seqIndex? i us.length = some i.toNat := by
          have := (ixN_seq (n := us.length) (i := i) (j := i.toNat) (by unfold ixN; rw [if_pos hc.1, if_pos (by rw [← rvs.length]; exact hc.2.1)])).1
          exact this
        refine ⟨b, us, i, i.toNat, u, rfl, rfl, hv, by omega, hc.2.2, hs, hu, ?_⟩
        exact p.write E hn ei trivial ⟨_, upd_same, (rvs.erase _).wr hv trivial⟩ ru
      · cases e
    · cases e
  · cases e
@[simp] def gClear : GM := fun a ws h => match ws, lstOf h a with
  | [], some (n, xs) => some (.non, h.set n (.pl (.lst [])))
  | _, _ => none
theorem sim_clear : SimM G rClear gClear := by
  intro a ws h w h' e io H x vs Q E ra rs p
  unfold gClear at e
  split at e
  · rename_i e1
    cases e; cases rs
    obtain ⟨b, us, rfl, hn, ei, hv, rvs⟩ := lstOf_r E e1 ra
    exact ⟨b, us, rfl, rfl, hv, p.write E hn ei trivial ⟨_, upd_same, .nil⟩ .non⟩
  · cases e
@[simp] def gReverse : GM := fun a ws h => match ws, lstOf h a with
  | [], some (n, xs) => some (.non, h.set n (.pl (.lst xs.reverse)))
  | _, _ => none
theorem sim_reverse : SimM G rReverse gReverse := by
  intro a ws h w h' e io H x vs Q E ra rs p
  unfold gReverse at e
  split at e
  · rename_i e1
    cases e; cases rs
    obtain ⟨b, us, rfl, hn, ei, hv, rvs⟩ := lstOf_r E e1 ra
    exact ⟨b, us, rfl, rfl, hv, p.write E hn ei trivial ⟨_, upd_same, rvs.reverse.wr hv trivial⟩ .non⟩
  · cases e
@[simp] def gExtend : GM := fun a ws h => match ws with
  | [b] => (match lstOf h a, lstOf h b with
    | some (n, xs), some (_, ys) => if xs.length + ys.length ≤ sizeLine then some (.non, h.set n (.pl (.lst (xs ++ ys)))) else none
    | _, _ => none)
  | _ => none
theorem sim_extend : SimM G rExtend gExtend := by
  intro a ws h w h' e io H x vs Q E ra rs p
  unfold gExtend at e
  split at e
  · split at e
    · rename_i e1 e2
      split at e
      · cases e
        obtain ⟨u, rfl, ru⟩ := rws1 rs
        obtain ⟨b, us, rfl, hn, ei, hv, rvs⟩ := lstOf_r E e1 ra
        obtain ⟨b2, us2, rfl, hn2, ei2, hv2, rvs2⟩ := lstOf_r E e2 ru
        refine ⟨b, b2, us, us2, rfl, rfl, hv, hv2, by rw [← rvs.length, ← rvs2.length]; assumption, ?_⟩
        exact p.write E hn ei trivial ⟨_, upd_same, (rvs.append rvs2).wr hv trivial⟩ .non
      · cases e
    · cases e
  · cases e
end
end Tw

namespace Tw
open PySem PySem.Spec PyProof.Rows L2

/-! ### what a def promises: a function of ours -/
def spF (G : Gm) (F : Fn) : Sp := fun vs H Q E => ∃ ws h r h' io, F ws h = some (r, h') ∧ Emb G io h H ∧ RWs G.K (adr io) H ws vs ∧ Post G (fun cls d _ H1 => E cls d H1) (RW G.K) io H [] r h' Q
abbrev FnV (G : Gm) (P : Program) (w : World) (K : PySem.W.Frag) (mg : Str → Option Value) (base : Heap) (k : Nat) (f : Addr) (fd : FuncData) (ps : List Str) (F : Fn) : Prop := FnOk P w K mg base (L2N.CX P w) k f fd ps (spF G F)

section
variable {G : Gm} {X : Cx} {Wx : WX} {k : Nat} {f C : Addr} {fd : FuncData} {ps : List Str} {F : Fn} {x m : Str} {p pos apos : Pos} {e o : Expr} {es : List Expr} {fs : List FE} {fo : FE}
@[simp] def fCall (F : Fn) (fs : List FE) : FE := fun fm h => bindM (fAll fs fm h) fun ws h1 => F ws h1
theorem call_read {s : L2.St} {H : Hp} {Q : VK} (q : cE G Wx (fCall F fs) s H Q) : tCallS (spF G F) (WE Wx) (cA G Wx (fAll fs)) s H Q := by
  obtain ⟨fm, h, r, h', io, e, E, S, p⟩ := q
  refine cG_step E S e p fun a h1 e1 io1 H1 v x1 E1 rv => ?_
  exact ⟨a, h1, r, h', io1, e1, E1, rv, fun io' H' x' E' => p io' H' (x1.trans x') E'⟩
theorem se_call (Fn : FnV G X.prog X.w X.K X.mg X.base k f fd ps F) (hr : Room k X.A) (hg : Gl X x) (hm : X.mg x = some (.ref f)) (hk : PySem.W.keepIn X.K (.ref f) = true) (hb : Binds X.K fd ps []) (tk : L2N.Takes X Wx)
    (ha : SA G X Wx (e :: es) (fAll fs)) (hdb : (x == ("__debug__" : Str)) = false := by decide) (he : starEach (e :: es) X.env = (false, eval e X.env) :: starEach es X.env := by rfl) (hpl : (backTo pos (starEach es X.env)).any (·.1) = false := by rfl) :
    SE G X Wx (.Call (.Name x p) (e :: es) [] pos) (fCall F fs) := PEw (pe_callS Fn hr hg hm hk hb (fun s => L2N.passAt tk s) ha hdb he hpl) fun _ _ _ q => call_read q
theorem pe_call0S {CX : CXT} {sp : Sp} {E : L2.St → XK} (Fn : FnOk X.prog X.w X.K X.mg X.base CX k f fd ps sp) (hr : Room k X.A) (hg : Gl X x) (hm : X.mg x = some (.ref f)) (hk : PySem.W.keepIn X.K (.ref f) = true) (hb : Binds X.K fd ps []) (hx : ∀ s, PassesAt CX X s (E s))
    (hdb : (x == ("__debug__" : Str)) = false := by decide) : PE X (.Call (.Name x p) [] [] pos) (tCallS sp E tNil) := by
  refine ⟨fun pins s σ H Q I h => ?_⟩
  refine wpAny_Call_Name_kw (ld_glob I hg hm ?_ hdb)
  exact PySem.W.callWith_K0 I.kIn hk (run_fnS (us := []) Fn hr hb (hx σ) I .nil h)
theorem nil_read {s : L2.St} {H : Hp} {Q : List V → Hp → Prop} (q : cA G Wx (fAll []) s H Q) : tNil s H Q := by
  obtain ⟨fm, h, r, h', io, e, E, S, p⟩ := q
  cases e
  exact p.now E .nil
theorem se_call0 (Fn : FnV G X.prog X.w X.K X.mg X.base k f fd ps F) (hr : Room k X.A) (hg : Gl X x) (hm : X.mg x = some (.ref f)) (hk : PySem.W.keepIn X.K (.ref f) = true) (hb : Binds X.K fd ps []) (tk : L2N.Takes X Wx)
    (hdb : (x == ("__debug__" : Str)) = false := by decide) : SE G X Wx (.Call (.Name x p) [] [] pos) (fCall F []) := PEw (pe_call0S Fn hr hg hm hk hb (fun s => L2N.passAt tk s) hdb) fun s H Q q => nil_read (call_read q)
/-! ### methods -/
def tMethX (C : Addr) (m : Str) (sp : Sp) (E : L2.St → XK) (ta : TE) (t : TA) : TE := fun σ H Q => ta σ H fun x H1 => ∃ a dx fs, x = .ref a ∧ H1 a = some (.ins C dx fs) ∧ fs.lookup m = none ∧ t σ H1 fun vs H2 => sp (x :: vs) H2 Q (E σ)
theorem pe_methX {pl : Sem Bool} {CX : CXT} {sp : Sp} {E : L2.St → XK} {ta : TE} {t : TA} (he : PE X o ta) (c : Cls X.K C) (hm : Meth X.K C m f) (Fn : FnOk X.prog X.w X.K X.mg X.base CX k f fd ps sp) (hr : Room k X.A) (hb : Binds X.K fd ps []) (hx : ∀ s, PassesAt CX X s (E s)) (ha : PA X (e :: es) t)
    (hst : starEach (e :: es) X.env = (false, eval e X.env) :: starEach es X.env := by rfl) (hpl : (backTo pos (starEach es X.env)).any (·.1) = false := by rfl)
    (ht : eval (.Call (.Attribute o m apos) (e :: es) [] pos) X.env = (do
      let ov ← eval o X.env
      standAt apos.atName
      let (f, first) ← holding [ov] (getMethod ov m pl)
      callWith pos f first (backTo pos (starEach (e :: es) X.env)) (backToKw pos (keywordEach [] X.env))) := by rfl) :
    PE X (.Call (.Attribute o m apos) (e :: es) [] pos) (tMethX C m sp E ta t) := by
  refine ⟨fun pins s σ H Q I h => ?_⟩
  refine PySem.W.methodCall_KW (pl := pl) (thn (he.run pins s σ H _ I h) fun u s1 ⟨x, H1, I1, rx, a, dx, fs, ex, ea, l, q⟩ => ?_) ht
  subst ex
  obtain rfl : u = Value.ref a := rx
  refine getmeth_ok I1 ea c hm l ?_
  refine PySem.W.callWith_K (first := [.ref a]) (h₀ := X.base) I.ok.mod.kin hm.kp (thn (ha.run pos pins s1 σ H1 _ I1 q) fun us s2 ⟨vs, H2, I2, r, q2⟩ => ⟨I2.kIn, ?_⟩) hst hpl
  exact run_fnS (us := .ref a :: us) (vs := .ref a :: vs) Fn hr hb (hx σ) I2 (.cons rfl r) q2
theorem pe_meth0X {pl : Sem Bool} {CX : CXT} {sp : Sp} {E : L2.St → XK} {ta : TE} (he : PE X o ta) (c : Cls X.K C) (hm : Meth X.K C m f) (Fn : FnOk X.prog X.w X.K X.mg X.base CX k f fd ps sp) (hr : Room k X.A) (hb : Binds X.K fd ps []) (hx : ∀ s, PassesAt CX X s (E s))
    (ht : eval (.Call (.Attribute o m apos) [] [] pos) X.env = (do
      let ov ← eval o X.env
      standAt apos.atName
      let (f, first) ← holding [ov] (getMethod ov m pl)
      callWith pos f first (backTo pos (starEach [] X.env)) (backToKw pos (keywordEach [] X.env))) := by rfl) :
    PE X (.Call (.Attribute o m apos) [] [] pos) (tMethX C m sp E ta tNil) := by
  refine ⟨fun pins s σ H Q I h => ?_⟩
  refine PySem.W.methodCall_KW (pl := pl) (thn (he.run pins s σ H _ I h) fun u s1 ⟨x, H1, I1, rx, a, dx, fs, ex, ea, l, q⟩ => ?_) ht
  subst ex
  obtain rfl : u = Value.ref a := rx
  refine getmeth_ok I1 ea c hm l ?_
  exact PySem.W.callWith_K0 (first := [.ref a]) I1.kIn hm.kp (run_fnS (us := [.ref a]) (vs := [.ref a]) Fn hr hb (hx σ) I1 (.cons rfl .nil) q)
@[simp] def fMeth (c : Nat) (F : Fn) (fo : FE) (fs : List FE) : FE := fun fm h => bindM (fo fm h) fun w h1 => match w with
  | .ref n => if clsAt h1 n = some c then bindM (fAll fs fm h1) fun ws h2 => F (.ref n :: ws) h2 else none
  | _ => none
theorem meth_read {c : Nat} {s : L2.St} {H : Hp} {Q : VK} (hno : m ∉ G.fl c) (q : cE G Wx (fMeth c F fo fs) s H Q) : tMethX (G.C c) m (spF G F) (WE Wx) (cE G Wx fo) (cA G Wx (fAll fs)) s H Q := by
  obtain ⟨fm, h, r, h', io, e, E, S, p⟩ := q
  refine cG_step E S e p fun a h1 e1 io1 H1 v x1 E1 rv => ?_
  split at e1
  · split at e1
    · rename_i hc
      obtain ⟨b, dx, vs, rfl, hv⟩ := clsAt_r E1 hc rv
      refine ⟨b, dx, _, rfl, hv, zipF_no hno, ?_⟩
      refine cG_step E1 (S.ext x1) e1 (p.ext x1) fun ws h2 e2 io2 H2 us x2 E2 rus => ?_
      exact ⟨_, h2, r, h', io2, e2, E2, .cons (rv.ext x2) rus, fun io' H' x' E' => p io' H' ((x1.trans x2).trans x') E'⟩
    · cases e1
  · cases e1
theorem se_meth (c : Nat) {pl : Sem Bool} (ho : SE G X Wx o fo) (cl : Cls X.K (G.C c)) (hm : Meth X.K (G.C c) m f) (hno : m ∉ G.fl c) (Fn : FnV G X.prog X.w X.K X.mg X.base k f fd ps F) (hr : Room k X.A) (hb : Binds X.K fd ps []) (tk : L2N.Takes X Wx) (ha : SA G X Wx (e :: es) (fAll fs))
    (hst : starEach (e :: es) X.env = (false, eval e X.env) :: starEach es X.env := by rfl) (hpl : (backTo pos (starEach es X.env)).any (·.1) = false := by rfl)
    (ht : eval (.Call (.Attribute o m apos) (e :: es) [] pos) X.env = (do
      let ov ← eval o X.env
      standAt apos.atName
      let (f, first) ← holding [ov] (getMethod ov m pl)
      callWith pos f first (backTo pos (starEach (e :: es) X.env)) (backToKw pos (keywordEach [] X.env))) := by rfl) :
    SE G X Wx (.Call (.Attribute o m apos) (e :: es) [] pos) (fMeth c F fo fs) := PEw (pe_methX ho cl hm Fn hr hb (fun s => L2N.passAt tk s) ha hst hpl ht) fun _ _ _ q => meth_read hno q
theorem se_meth0 (c : Nat) {pl : Sem Bool} (ho : SE G X Wx o fo) (cl : Cls X.K (G.C c)) (hm : Meth X.K (G.C c) m f) (hno : m ∉ G.fl c) (Fn : FnV G X.prog X.w X.K X.mg X.base k f fd ps F) (hr : Room k X.A) (hb : Binds X.K fd ps []) (tk : L2N.Takes X Wx)
    (ht : eval (.Call (.Attribute o m apos) [] [] pos) X.env = (do
      let ov ← eval o X.env
      standAt apos.atName
      let (f, first) ← holding [ov] (getMethod ov m pl)
      callWith pos f first (backTo pos (starEach [] X.env)) (backToKw pos (keywordEach [] X.env))) := by rfl) :
    SE G X Wx (.Call (.Attribute o m apos) [] [] pos) (fMeth c F fo []) := PEw (pe_meth0X ho cl hm Fn hr hb (fun s => L2N.passAt tk s) ht) fun s H Q q => by
  have z := meth_read hno q
  obtain ⟨fm, h, r, h', io, e, E, S, p⟩ := z
  exact ⟨fm, h, r, h', io, e, E, S, fun io' H' x' E' => by
    have y := p io' H' x' E'
    cases r with
    | ex c => exact y
    | ok w =>
      intro v rv
      obtain ⟨a, dx, fs, e1, e2, e3, q⟩ := y v rv
      exact ⟨a, dx, fs, e1, e2, e3, nil_read q⟩⟩
/-! ### a new instance -/
def tMakeX (C : Addr) (sp : Sp) (E : L2.St → XK) (t : TA) : TE := fun σ H Q => t σ H fun vs H1 => ∀ x dx, H1 x = none → H1 dx = none → dx ≠ x → sp (.ref x :: vs) (upd (upd H1 dx (.own x)) x (.ins C dx [])) (fun v H2 => v = .non ∧ Q (.ref x) H2) (E σ)
theorem run_makeX {CX : CXT} {sp : Sp} {E : L2.St → XK} {pins : List (Addr × Obj)} {σ : L2.St} {H : Hp} {s : Shared} {Q : VK} {us : List Value} {vs : List V} (M : Mk X.K C f) (Fn : FnOk X.prog X.w X.K X.mg X.base CX k f fd ps sp) (hr : Room (k + 1) X.A) (hb : Binds X.K fd ps []) (hx : PassesAt CX X σ (E σ)) (I : Inv X pins σ H s) (r : Vals vs us)
    (h : ∀ x dx, H x = none → H dx = none → dx ≠ x → sp (.ref x :: vs) (upd (upd H dx (.own x)) x (.ins C dx [])) (fun v H2 => v = .non ∧ Q (.ref x) H2) (E σ)) :
    wpAny (model X.prog X.w) X.A (call (.ref C) us) (EP X pins σ Q) X.xe s := by
  have hq := h (s.heap.objs.size + 1) s.heap.objs.size (I.hok.fresh (Nat.le_succ _)) (I.hok.fresh (Nat.le_refl _)) (Nat.ne_of_lt (Nat.lt_succ_self _))
  have I2 := Inv.made (C := C) I
  have r2 : Vals (V.ref (s.heap.objs.size + 1) :: vs) (Value.ref (s.heap.objs.size + 1) :: us) := .cons rfl r
  have hl : (Value.ref (s.heap.objs.size + 1) :: us).length = ps.length := by
    rw [← r2.length]; exact Fn.len _ _ _ _ hq
  have b := hb ({ s with heap := (s.heap.push PySem.W.emptyDict).push (PySem.W.instObj C s.heap.objs.size) }) (Value.ref (s.heap.objs.size + 1) :: us) I2.kIn (by rw [List.append_nil]; exact hl)
  rw [List.append_nil] at b
  refine wpAny_call (make_map (f := f) I.kIn M.makes M.init (beq_iff_eq.mp M.fn) (codeAny_mono (Fn.run _ X.stack _ _ ⟨Value.ref (s.heap.objs.size + 1) :: us, []⟩ (Value.ref (s.heap.objs.size + 1) :: us) _ _ (E σ) (hr.make C us [])
    (I2.env0.make C us []) b r2 hq) fun r s' hq' => ?_))
  cases r with
  | error e => exact hx pins _ _ e s' I2 hq'
  | ok fl =>
    cases fl with
    | ret u =>
      obtain ⟨v, H', I3, rv, ev, q3⟩ := I2.after hq'
      subst ev
      exact ⟨rv, ⟨V.ref (s.heap.objs.size + 1), H', I3, rfl, q3⟩⟩
    | next => exact False.elim hq'
    | brk => exact False.elim hq'
    | cont => exact False.elim hq'
theorem pe_makeX {CX : CXT} {sp : Sp} {E : L2.St → XK} {t : TA} (M : Mk X.K C f) (Fn : FnOk X.prog X.w X.K X.mg X.base CX k f fd ps sp) (hr : Room (k + 1) X.A) (hg : Gl X x) (hm : X.mg x = some (.ref C)) (hb : Binds X.K fd ps []) (hx : ∀ s, PassesAt CX X s (E s))
    (ha : PA X (e :: es) t) (hdb : (x == ("__debug__" : Str)) = false := by decide) (he : starEach (e :: es) X.env = (false, eval e X.env) :: starEach es X.env := by rfl) (hpl : (backTo pos (starEach es X.env)).any (·.1) = false := by rfl) :
    PE X (.Call (.Name x p) (e :: es) [] pos) (tMakeX C sp E t) := by
  refine ⟨fun pins s σ H Q I h => ?_⟩
  refine wpAny_Call_Name_kw (ld_glob I hg hm ?_ hdb)
  refine PySem.W.callWith_K (h₀ := X.base) I.ok.mod.kin M.kp (thn (ha.run pos pins s σ H _ I h) fun us s1 ⟨vs, H1, I1, r, q⟩ => ⟨I1.kIn, ?_⟩) he hpl
  exact run_makeX M Fn hr hb (hx σ) I1 r q
@[simp] def fMake (c : Nat) (F : Fn) (fs : List FE) : FE := fun fm h => bindM (fAll fs fm h) fun ws h1 => bindM (F (.ref h1.length :: ws) (h1 ++ [.pl (.ins c [])])) fun w h2 => match w with
  | .non => some (.ok (.ref h1.length), h2)
  | _ => none
theorem se_make (c : Nat) (M : Mk X.K (G.C c) f) (Fn : FnV G X.prog X.w X.K X.mg X.base k f fd ps F) (hfl : (G.fl c).Nodup ∧ (G.fl c).length ≤ 500) (hr : Room (k + 1) X.A) (hg : Gl X x) (hm : X.mg x = some (.ref (G.C c))) (hb : Binds X.K fd ps []) (tk : L2N.Takes X Wx)
    (ha : SA G X Wx (e :: es) (fAll fs)) (hdb : (x == ("__debug__" : Str)) = false := by decide) (he : starEach (e :: es) X.env = (false, eval e X.env) :: starEach es X.env := by rfl) (hpl : (backTo pos (starEach es X.env)).any (·.1) = false := by rfl) :
    SE G X Wx (.Call (.Name x p) (e :: es) [] pos) (fMake c F fs) := by
  refine PEw (pe_makeX M Fn hr hg hm hb (fun s => L2N.passAt tk s) ha hdb he hpl) fun s H Q q => ?_
  obtain ⟨fm, h, r, h', io, e, E, S, p⟩ := q
  refine cG_step E S e p fun ws h1 e1 io1 H1 vs x1 E1 rv => ?_
  intro y dx ny ndx ne
  obtain ⟨E2, x2⟩ := E1.side (o := .own y) ndx
  have ny2 : upd H1 dx (.own y) y = none := by rw [upd_ne (Ne.symm ne)]; exact ny
  obtain ⟨E3, x3⟩ := E2.alloc (q := .ins c []) (o := .ins (G.C c) dx []) ny2 trivial ⟨[], dx, by rw [upd_same]; simp [zipF], .nil, Nat.zero_le _, hfl.1, hfl.2⟩
  have ry : RW G.K (adr (io1 ++ [[y]])) (upd (upd H1 dx (.own y)) y (.ins (G.C c) dx [])) (.ref h1.length) (.ref y) := .ref (by rw [← E1.len]; exact adr_new)
  have x23 := x2.trans x3
  rcases bindM_cases e1 with ⟨w, h2, e2, e3⟩ | ⟨c', e2, e3⟩
  · refine ⟨_, _, _, h2, _, e2, E3, .cons ry (rv.ext x23), fun io' H' x' E' v rv' => ?_⟩
    split at e3
    · cases e3
      cases rv'
      exact ⟨rfl, p io' H' ((x1.trans x23).trans x') E' _ (ry.ext x')⟩
    · cases e3
  · subst e3
    exact ⟨_, _, _, h', _, e2, E3, .cons ry (rv.ext x23), fun io' H' x' E' => p io' H' ((x1.trans x23).trans x') E'⟩
/-! ### isinstance -/
def isiB (T : String) (h : VH) : W → Option Bool
  | .non => kitB "NoneType" T
  | .bl _ => kitB "bool" T
  | .int _ => kitB "int" T
  | .str _ => kitB "str" T
  | .tup _ => kitB "tuple" T
  | .rl _ => kitB "list" T
  | .ref n => match h[n]? with
    | some (.pl (.lst _)) => kitB "list" T
    | some (.fz _) => kitB "list" T
    | some (.pl (.dct _)) => kitB "dict" T
    | some (.pl (.rcd _ _)) => kitB "dict" T
    | _ => none
theorem isiB_r {T : String} {io : List (List Addr)} {h : VH} {H : Hp} {w : W} {v : V} {b : Bool} (E : Emb G io h H) (e : isiB T h w = some b) (r : RW G.K (adr io) H w v) : ∃ t, TyX G.K H v t ∧ PySem.W.kitOne G.K t (.type T) = some b := by
  unfold isiB at e
  split at e
  · cases r; exact ⟨_, .base .non, kit_ty e⟩
  · cases r; exact ⟨_, .base (.bl _), kit_ty e⟩
  · cases r; exact ⟨_, .base (.int _), kit_ty e⟩
  · cases r; exact ⟨_, .base (.str _), kit_ty e⟩
  · cases r with
    | tup ha _ => exact ⟨_, .base (.tup ha), kit_ty e⟩
  · cases r with
    | rl ha _ =>
      rcases ha with ⟨o, ha⟩ | ⟨o, its, n, h1, h2, _⟩
      · exact ⟨_, .base (.frz ha), kit_ty e⟩
      · exact ⟨_, .kList h1 h2, kit_ty e⟩
  · split at e
    · rename_i hn
      obtain ⟨a, rfl, _, vs, hv, _⟩ := E.ref hn r
      exact ⟨_, .base (.lst hv), kit_ty e⟩
    · rename_i hn
      obtain ⟨l, e1, a, vs, o, e2, hv, rv⟩ := E.at_ _ _ hn
      subst e2
      cases r with
      | ref z =>
        unfold adr at z
        rw [e1] at z
        cases z
        exact ⟨_, .base (.frz hv), kit_ty e⟩
    · rename_i hn
      obtain ⟨a, rfl, _, vs, hv, _⟩ := E.ref hn r
      exact ⟨_, .base (.dK hv), kit_ty e⟩
    · rename_i hn
      obtain ⟨a, rfl, _, vs, hv, _⟩ := E.ref hn r
      exact ⟨_, .base (.dK hv), kit_ty e⟩
    · cases e
@[simp] def fIsi (T : String) (f : FE) : FE := fun fm h => bindM (f fm h) fun w h1 => match isiB T h1 w with
  | some b => some (.ok (.bl b), h1)
  | none => none
variable {f1 : FE}
theorem se_isi (T : String) {tn : Str} {p2 : Pos} (hK : X.K = G.K) (hg : Gl X "isinstance") (hm : X.mg "isinstance" = none) (hgT : Gl X tn) (hmT : X.mg tn = none) (hvT : bootBuiltins tn = some (.type T)) (hnT : tn ≠ "__name__" := by decide) (hdT : (tn == ("__debug__" : Str)) = false := by decide) (he : SE G X Wx e f1)
    (s1 : starEach [e, .Name tn p2] X.env = (false, eval e X.env) :: starEach [.Name tn p2] X.env := by rfl) (hpl : (backTo pos (starEach [.Name tn p2] X.env)).any (·.1) = false := by rfl) (s2 : starEach [.Name tn p2] X.env = (false, eval (.Name tn p2) X.env) :: starEach [] X.env := by rfl) :
    SE G X Wx (.Call (.Name "isinstance" p) [e, .Name tn p2] [] pos) (fIsi T f1) := by
  refine PEw (pe_callB (r := rIsi X.K) call_isi hg hm (by decide +kernel) (pa_cons he (pa_cons (pe_bltn (v := .ty T) hgT hmT hvT rfl hnT hdT) pa_nil s2) s1) (by decide) (by decide) s1 hpl) fun s H Q q => ?_
  obtain ⟨fm, h, r, h', io, e, E, S, p⟩ := q
  refine cG_step E S e p fun a h1 e1 io1 H1 v x1 E1 rv => ?_
  split at e1
  · rename_i b eb
    cases e1
    obtain ⟨t, ty, kt⟩ := isiB_r E1 eb rv
    exact ⟨v, .ty T, t, .type T, b, rfl, .ty T, by rw [hK]; exact ty, by rw [hK]; exact kt, p io1 H1 x1 E1 _ (.bl _)⟩
  · cases e1
/-- isinstance(o, C) for classes of the program -/
structure InsOk (K : PySem.W.Frag) (C : Addr) : Prop where
  cl : Cls K C
  ha : PySem.W.findIn K (.ref C) "__class__" = some (some (.builtin "object.__class__"))
  hn : PySem.W.specialIn K (.builtin "object.__class__") "__get__" = some (some (.builtin "getset_descriptor.__get__"))
  htk : PySem.W.takesIn K (.builtin "object.__class__") = some true
  hm : PySem.W.mroIn K C (.type "object") = some true
@[simp] def fIsc (sub : Nat → Option Bool) (f : FE) : FE := fun fm h => bindM (f fm h) fun w h1 => match w with
  | .ref n => (match clsAt h1 n with
    | some c => (match sub c with
      | some b => some (.ok (.bl b), h1)
      | none => none)
    | none => none)
  | _ => none
theorem se_isc (c0 : Nat) {sub : Nat → Option Bool} {tn : Str} {p2 : Pos} (hK : X.K = G.K) (hg : Gl X "isinstance") (hm : X.mg "isinstance" = none) (hgT : Gl X tn) (hmT : X.mg tn = some (.ref (G.C c0))) (hdT : (tn == ("__debug__" : Str)) = false := by decide)
    (hok : ∀ c b, sub c = some b → InsOk G.K (G.C c) ∧ PySem.W.kitOne G.K (.ref (G.C c)) (.ref (G.C c0)) = some b) (he : SE G X Wx e f1)
    (s1 : starEach [e, .Name tn p2] X.env = (false, eval e X.env) :: starEach [.Name tn p2] X.env := by rfl) (hpl : (backTo pos (starEach [.Name tn p2] X.env)).any (·.1) = false := by rfl) (s2 : starEach [.Name tn p2] X.env = (false, eval (.Name tn p2) X.env) :: starEach [] X.env := by rfl) :
    SE G X Wx (.Call (.Name "isinstance" p) [e, .Name tn p2] [] pos) (fIsc sub f1) := by
  refine PEw (pe_callB (r := rIsi X.K) call_isi hg hm (by decide +kernel) (pa_cons he (pa_cons (pe_glob (v := .ref (G.C c0)) hgT hmT rfl hdT) pa_nil s2) s1) (by decide) (by decide) s1 hpl) fun s H Q q => ?_
  obtain ⟨fm, h, r, h', io, e, E, S, p⟩ := q
  refine cG_step E S e p fun a h1 e1 io1 H1 v x1 E1 rv => ?_
  split at e1
  · split at e1
    · rename_i c hc
      split at e1
      · rename_i bb hb
        cases e1
        obtain ⟨b, dx, vs, rfl, hv⟩ := clsAt_r E1 hc rv
        obtain ⟨k, kt⟩ := hok c bb hb
        exact ⟨_, .ref (G.C c0), .ref (G.C c), .ref (G.C c0), bb, rfl, .own _, by rw [hK]; exact .base (.ins hv k.cl k.ha k.hn k.htk k.hm), by rw [hK]; exact kt, p io1 H1 x1 E1 _ (.bl _)⟩
      · cases e1
    · cases e1
  · cases e1
end
end Tw

namespace Tw
open PySem PySem.Spec PyProof.Rows L2

/-! ### what is walked -/
inductive Sc where
  | lst (n : Nat) | tup (xs : List W) | rng (lo : Int) (n : Nat) | enm (n : Nat) | vls (xs : List W) | ven (xs : List W) | zp (s1 s2 : W)
def Sc.nx (h : VH) (i : Nat) : Sc → Option (Option W)
  | .lst n => (match lstAt h (.ref n) with
    | some xs => some xs[i]?
    | none => none)
  | .tup xs => some xs[i]?
  | .rng lo n => if i < n then some (some (.int (lo + (i : Nat)))) else some none
  | .enm n => (match lstAt h (.ref n) with
    | some xs => (match xs[i]? with
      | some x => some (some (.tup [.int (i : Nat), x]))
      | none => some none)
    | none => none)
  | .vls xs => some xs[i]?
  | .ven xs => (match xs[i]? with
      | some x => some (some (.tup [.int (i : Nat), x]))
      | none => some none)
  | .zp s1 s2 => (match lstAt h s1, lstAt h s2 with
    | some xs, some ys => (match xs[i]?, ys[i]? with
      | some x, some y => some (some (.tup [x, y]))
      | _, _ => some none)
    | _, _ => none)
def Sc.cnt (h : VH) : Sc → Nat
  | .lst n => (match lstAt h (.ref n) with
    | some xs => xs.length
    | none => 0)
  | .tup xs => xs.length
  | .rng _ n => n
  | .enm n => (match lstAt h (.ref n) with
    | some xs => xs.length
    | none => 0)
  | .vls xs => xs.length
  | .ven xs => xs.length
  | .zp s1 _ => (match lstAt h s1 with
    | some xs => xs.length
    | none => 0)
abbrev FI := Fm → VH → Option (Rs Sc × VH)
def RI (K : PySem.W.Frag) (ad : Nat → Option Addr) (H : Hp) : Sc → It → Prop
  | .lst n, J => ∃ a, ad n = some a ∧ J = Itl K a
  | .tup xs, J => ∃ a vs, H a = some (.tup vs) ∧ RWs K ad H xs vs ∧ J = Itt K a
  | .rng lo n, J => J = Itr lo n
  | .enm n, J => ∃ a, ad n = some a ∧ J = Ite K a
  | .vls xs, J => ∃ a vs, FzL K H a vs ∧ RWs K ad H xs vs ∧ J = Itl K a
  | .ven xs, J => ∃ a vs, FzL K H a vs ∧ RWs K ad H xs vs ∧ J = Ite K a
  | .zp s1 s2, J => ∃ a b, RW K ad H s1 (.ref a) ∧ RW K ad H s2 (.ref b) ∧ J = Itz K a b
section
variable {G : Gm} {X : Cx} {Wx : WX}
theorem RI.ext {K : PySem.W.Frag} {io io' : List (List Addr)} {H H' : Hp} (x : Ext io H io' H') {s : Sc} {J : It} (r : RI K (adr io) H s J) : RI K (adr io') H' s J := by
  cases s with
  | lst n => obtain ⟨a, h, e⟩ := r; exact ⟨a, x.root _ _ h, e⟩
  | tup xs => obtain ⟨a, vs, h, r, e⟩ := r; exact ⟨a, vs, x.tup _ _ h id, r.ext x, e⟩
  | rng lo n => exact r
  | enm n => obtain ⟨a, h, e⟩ := r; exact ⟨a, x.root _ _ h, e⟩
  | vls xs => obtain ⟨a, vs, h, r, e⟩ := r; exact ⟨a, vs, h.stay x.tup, r.ext x, e⟩
  | ven xs => obtain ⟨a, vs, h, r, e⟩ := r; exact ⟨a, vs, h.stay x.tup, r.ext x, e⟩
  | zp s1 s2 => obtain ⟨a, b, r1, r2, e⟩ := r; exact ⟨a, b, r1.ext x, r2.ext x, e⟩
theorem lstAt_ad {io : List (List Addr)} {h : VH} {H : Hp} {n : Nat} {a : Addr} {xs : List W} (E : Emb G io h H) (e : lstAt h (.ref n) = some xs) (ha : adr io n = some a) : ∃ vs, SqL G.K H a vs ∧ RWs G.K (adr io) H xs vs := by
  obtain ⟨b, vs, eb, h1, h2⟩ := lstAt_r E e (.ref ha)
  cases eb
  exact ⟨vs, h1, h2⟩
theorem RI.stop {io : List (List Addr)} {h : VH} {H : Hp} {s : Sc} {J : It} {i : Nat} (E : Emb G io h H) (r : RI G.K (adr io) H s J) (e : s.nx h i = some none) : J.stop i H := by
  cases s with
  | lst n =>
    obtain ⟨a, ha, rfl⟩ := r
    simp only [Sc.nx] at e
    split at e
    · rename_i xs ex
      obtain ⟨vs, h1, h2⟩ := lstAt_ad E ex ha
      refine ⟨vs, h1, ?_⟩
      rw [← h2.length]
      exact List.getElem?_eq_none_iff.mp (Option.some.inj e)
    · cases e
  | tup xs =>
    obtain ⟨a, vs, ha, hr, rfl⟩ := r
    refine ⟨vs, .inl (.inl ha), ?_⟩
    rw [← hr.length]
    exact List.getElem?_eq_none_iff.mp (Option.some.inj e)
  | rng lo n =>
    cases r
    simp only [Sc.nx] at e
    split at e
    · cases e
    · show n ≤ i
      omega
  | enm n =>
    obtain ⟨a, ha, rfl⟩ := r
    simp only [Sc.nx] at e
    split at e
    · rename_i xs ex
      split at e
      · cases e
      · rename_i en
        obtain ⟨vs, h1, h2⟩ := lstAt_ad E ex ha
        refine ⟨vs, h1, ?_⟩
        rw [← h2.length]
        exact List.getElem?_eq_none_iff.mp en
    · cases e
  | vls xs =>
    obtain ⟨a, vs, ha, hr, rfl⟩ := r
    refine ⟨vs, ha.sq, ?_⟩
    rw [← hr.length]
    exact List.getElem?_eq_none_iff.mp (Option.some.inj e)
  | ven xs =>
    obtain ⟨a, vs, ha, hr, rfl⟩ := r
    simp only [Sc.nx] at e
    split at e
    · cases e
    · rename_i en
      refine ⟨vs, ha.sq, ?_⟩
      rw [← hr.length]
      exact List.getElem?_eq_none_iff.mp en
  | zp s1 s2 =>
    obtain ⟨a, b, r1, r2, rfl⟩ := r
    simp only [Sc.nx] at e
    split at e
    · rename_i xs ys ex ey
      obtain ⟨a', us, z, hu, ru⟩ := lstAt_r E ex r1
      cases z
      obtain ⟨b', vs, z, hv, rv⟩ := lstAt_r E ey r2
      cases z
      refine ⟨us, vs, hu, hv, ?_⟩
      rw [← ru.length, ← rv.length]
      split at e
      · cases e
      · rename_i hn
        by_cases q : xs.length ≤ i
        · exact .inl q
        · by_cases q2 : ys.length ≤ i
          · exact .inr q2
          · exact absurd (List.getElem?_eq_getElem (by omega : i < ys.length)) (fun z2 => hn _ _ (List.getElem?_eq_getElem (by omega : i < xs.length)) z2)
    · cases e
theorem RI.go {io : List (List Addr)} {h : VH} {H : Hp} {s : Sc} {J : It} {i : Nat} {w : W} (E : Emb G io h H) (r : RI G.K (adr io) H s J) (e : s.nx h i = some (some w)) : J.go i H ∧ ∀ x H', J.yld i H x H' → Ext io H io H' ∧ Emb G io h H' ∧ RW G.K (adr io) H' w x := by
  cases s with
  | lst n =>
    obtain ⟨a, ha, rfl⟩ := r
    simp only [Sc.nx] at e
    split at e
    · rename_i xs ex
      obtain ⟨vs, h1, h2⟩ := lstAt_ad E ex ha
      obtain ⟨v, hv, rv⟩ := h2.get (Option.some.inj e)
      refine ⟨⟨vs, v, h1, hv⟩, fun x H' y => ?_⟩
      obtain ⟨rfl, y⟩ := y
      rw [y vs h1] at hv
      cases hv
      exact ⟨Ext.refl, E, rv⟩
    · cases e
  | tup xs =>
    obtain ⟨a, vs, ha, hr, rfl⟩ := r
    obtain ⟨v, hv, rv⟩ := hr.get (Option.some.inj e)
    refine ⟨⟨vs, v, .inl (.inl ha), hv⟩, fun x H' y => ?_⟩
    obtain ⟨rfl, y⟩ := y
    rw [y vs (.inl (.inl ha))] at hv
    cases hv
    exact ⟨Ext.refl, E, rv⟩
  | rng lo n =>
    cases r
    simp only [Sc.nx] at e
    split at e
    · rename_i hi
      cases e
      refine ⟨hi, fun x H' y => ?_⟩
      obtain ⟨rfl, rfl⟩ := y
      exact ⟨Ext.refl, E, .int _⟩
    · cases e
  | enm n =>
    obtain ⟨a, ha, rfl⟩ := r
    simp only [Sc.nx] at e
    split at e
    · rename_i xs ex
      split at e
      · rename_i x0 e0
        cases e
        obtain ⟨vs, h1, h2⟩ := lstAt_ad E ex ha
        obtain ⟨v, hv, rv⟩ := h2.get e0
        refine ⟨⟨vs, v, h1, hv⟩, fun x H' y => ?_⟩
        obtain ⟨T, z, rfl, nT, rfl, y⟩ := y
        rw [y vs h1] at hv
        cases hv
        obtain ⟨E1, x1⟩ := E.side (o := .tup [.int (i : Nat), v]) nT
        exact ⟨x1, E1, .tup upd_same (.cons (.int _) (.cons (rv.ext x1) .nil))⟩
      · cases e
    · cases e
  | vls xs =>
    obtain ⟨a, vs, ha, hr, rfl⟩ := r
    obtain ⟨v, hv, rv⟩ := hr.get (Option.some.inj e)
    refine ⟨⟨vs, v, ha.sq, hv⟩, fun x H' y => ?_⟩
    obtain ⟨rfl, y⟩ := y
    rw [y vs ha.sq] at hv
    cases hv
    exact ⟨Ext.refl, E, rv⟩
  | ven xs =>
    obtain ⟨a, vs, ha, hr, rfl⟩ := r
    simp only [Sc.nx] at e
    split at e
    · rename_i x0 e0
      cases e
      obtain ⟨v, hv, rv⟩ := hr.get e0
      refine ⟨⟨vs, v, ha.sq, hv⟩, fun x H' y => ?_⟩
      obtain ⟨T, z, rfl, nT, rfl, y⟩ := y
      rw [y vs ha.sq] at hv
      cases hv
      obtain ⟨E1, x1⟩ := E.side (o := .tup [.int (i : Nat), v]) nT
      exact ⟨x1, E1, .tup upd_same (.cons (.int _) (.cons (rv.ext x1) .nil))⟩
    · cases e
  | zp s1 s2 =>
    obtain ⟨a, b, r1, r2, rfl⟩ := r
    simp only [Sc.nx] at e
    split at e
    · rename_i xs ys ex ey
      obtain ⟨a', us, z, hu, ru⟩ := lstAt_r E ex r1
      cases z
      obtain ⟨b', vs, z, hv, rv⟩ := lstAt_r E ey r2
      cases z
      split at e
      · rename_i x0 y0 e0 e1
        cases e
        obtain ⟨u, gu, qu⟩ := ru.get e0
        obtain ⟨v, gv, qv⟩ := rv.get e1
        refine ⟨⟨us, vs, u, v, hu, hv, gu, gv⟩, fun x H' y => ?_⟩
        obtain ⟨T, x1, y1, rfl, nT, rfl, k1, k2⟩ := y
        rw [k1 us hu] at gu
        cases gu
        rw [k2 vs hv] at gv
        cases gv
        obtain ⟨E1, z1⟩ := E.side (o := .tup [u, v]) nT
        exact ⟨z1, E1, .tup upd_same (.cons (qu.ext z1) (.cons (qv.ext z1) .nil))⟩
      · cases e
    · cases e
abbrev cI (G : Gm) (Wx : WX) (f : FI) : TI := cG G Wx (RI G.K) f
abbrev SI (G : Gm) (X : Cx) (Wx : WX) (tg iter : Expr) (f : FI) : Prop := PI X tg iter (cI G Wx f)
theorem PIw {tg e : Expr} {t t' : TI} (p : PI X tg e t) (k : ∀ s H R, t' s H R → t s H R) : PI X tg e t' := ⟨fun pins s σ H R I h => p.run pins s σ H R I (k _ _ _ h)⟩
variable {tg l a b : Expr} {f fa fb : FE} {fs : List FE} {p pos : Pos}
@[simp] def fIl (f : FE) : FI := fun fm h => bindM (f fm h) fun w h1 => match w with
  | .ref n => (match lstAt h1 (.ref n) with
    | some _ => some (.ok (.lst n), h1)
    | none => none)
  | .rl xs => some (.ok (.vls xs), h1)
  | _ => none
theorem si_list (hK : X.K = G.K) (hl : SE G X Wx l f) : SI G X Wx tg l (fIl f) := by
  refine PIw (pi_list hl) fun s H R q => ?_
  obtain ⟨fm, h, r, h', io, e, E, S, p⟩ := q
  refine cG_step E S e p fun a h1 e1 io1 H1 v x1 E1 rv => ?_
  split at e1
  · split at e1
    · rename_i xs ex
      cases e1
      obtain ⟨b, vs, rfl, hv, rvs⟩ := lstAt_r E1 ex rv
      cases rv with
      | ref ha => exact ⟨b, rfl, ⟨vs, by rw [hK]; exact hv⟩, by rw [hK]; exact p io1 H1 x1 E1 _ ⟨b, ha, rfl⟩⟩
    · cases e1
  · cases e1
    cases rv with
    | rl ha hr => exact ⟨_, rfl, ⟨_, by rw [hK]; exact ha.sq⟩, by rw [hK]; exact p io1 H1 x1 E1 _ ⟨_, _, ha, hr, rfl⟩⟩
  · cases e1
@[simp] def fIt (f : FE) : FI := fun fm h => bindM (f fm h) fun w h1 => match w with
  | .tup xs => some (.ok (.tup xs), h1)
  | _ => none
theorem si_tup (hK : X.K = G.K) (hl : SE G X Wx l f) : SI G X Wx tg l (fIt f) := by
  refine PIw (pi_tup hl) fun s H R q => ?_
  obtain ⟨fm, h, r, h', io, e, E, S, p⟩ := q
  refine cG_step E S e p fun a h1 e1 io1 H1 v x1 E1 rv => ?_
  split at e1
  · cases e1
    cases rv with
    | tup ha hr => exact ⟨_, rfl, ⟨_, .inl (.inl ha)⟩, by rw [hK]; exact p io1 H1 x1 E1 _ ⟨_, _, ha, hr, rfl⟩⟩
  · cases e1
@[simp] def fIr1 (fa : FE) : FI := fun fm h => bindM (fa fm h) fun w h1 => match w with
  | .int j => if -(2 ^ 62) ≤ j ∧ j < 2 ^ 62 then some (.ok (.rng 0 j.toNat), h1) else none
  | _ => none
@[simp] def fIr2 (fa fb : FE) : FI := fun fm h => bindM (fa fm h) fun w h1 => bindM (fb fm h1) fun u h2 => match w, u with
  | .int i, .int j => if -(2 ^ 62) ≤ i ∧ i < 2 ^ 62 ∧ -(2 ^ 62) ≤ j ∧ j < 2 ^ 62 then some (.ok (.rng i (j - i).toNat), h2) else none
  | _, _ => none
theorem si_range1 (hg : Gl X "range") (hm : X.mg "range" = none) (ha : SE G X Wx a fa) (hs : starEach [a] X.env = [(false, eval a X.env)] := by rfl) (hs0 : starEach [a] X.env = (false, eval a X.env) :: starEach [] X.env := by rfl) : SI G X Wx tg (.Call (.Name "range" p) [a] [] pos) (fIr1 fa) := by
  refine PIw (pi_range1 hg hm (pa_cons ha pa_nil hs0) hs) fun s H R q => ?_
  obtain ⟨fm, h, r, h', io, e, E, S, p⟩ := q
  refine cG_step E S e p fun a h1 e1 io1 H1 v x1 E1 rv => ?_
  split at e1
  · split at e1
    · rename_i hc
      cases e1; cases rv
      exact ⟨_, rfl, hc.1, hc.2, p io1 H1 x1 E1 _ rfl⟩
    · cases e1
  · cases e1
theorem si_range2 (hg : Gl X "range") (hm : X.mg "range" = none) (ha : SE G X Wx a fa) (hb : SE G X Wx b fb) (hs : starEach [a, b] X.env = [(false, eval a X.env), (false, eval b X.env)] := by rfl) (hs2 : starEach [b] X.env = [(false, eval b X.env)] := by rfl)
    (h1 : starEach [a, b] X.env = (false, eval a X.env) :: starEach [b] X.env := by rfl) (h2 : starEach [b] X.env = (false, eval b X.env) :: starEach [] X.env := by rfl) : SI G X Wx tg (.Call (.Name "range" p) [a, b] [] pos) (fIr2 fa fb) := by
  refine PIw (pi_range2 hg hm (pa_cons ha (pa_cons hb pa_nil h2) h1) hs hs2) fun s H R q => ?_
  obtain ⟨fm, h, r, h', io, e, E, S, p⟩ := q
  refine cG_step E S e p fun a h1 e1 io1 H1 v x1 E1 rv => ?_
  refine cG_step E1 (S.ext x1) e1 (p.ext x1) fun b h2 e2 io2 H2 u x2 E2 ru => ?_
  split at e2
  · split at e2
    · rename_i hc
      cases e2; cases rv; cases ru
      exact ⟨_, _, rfl, hc, p io2 H2 (x1.trans x2) E2 _ rfl⟩
    · cases e2
  · cases e2
@[simp] def fIe (f : FE) : FI := fun fm h => bindM (f fm h) fun w h1 => match w with
  | .ref n => (match lstAt h1 (.ref n) with
    | some _ => some (.ok (.enm n), h1)
    | none => none)
  | .rl xs => some (.ok (.ven xs), h1)
  | _ => none
theorem si_enum {tpos : Pos} {elts : List Expr} {kk : Nat} (hK : X.K = G.K) (hg : Gl X "enumerate") (hm : X.mg "enumerate" = none) (hl : SE G X Wx l f) (hs : starEach [l] X.env = [(false, eval l X.env)] := by rfl) (hs0 : starEach [l] X.env = (false, eval l X.env) :: starEach [] X.env := by rfl) :
    SI G X Wx (.Tuple elts kk tpos) (.Call (.Name "enumerate" p) [l] [] pos) (fIe f) := by
  refine PIw (pi_enum hg hm (pa_cons hl pa_nil hs0) hs) fun s H R q => ?_
  obtain ⟨fm, h, r, h', io, e, E, S, p⟩ := q
  refine cG_step E S e p fun a h1 e1 io1 H1 v x1 E1 rv => ?_
  split at e1
  · split at e1
    · rename_i xs ex
      cases e1
      obtain ⟨b, vs, rfl, hv, rvs⟩ := lstAt_r E1 ex rv
      cases rv with
      | ref ha => exact ⟨b, vs, rfl, by rw [hK]; exact hv, by rw [hK]; exact p io1 H1 x1 E1 _ ⟨b, ha, rfl⟩⟩
    · cases e1
  · cases e1
    cases rv with
    | rl ha hr => exact ⟨_, _, rfl, by rw [hK]; exact ha.sq, by rw [hK]; exact p io1 H1 x1 E1 _ ⟨_, _, ha, hr, rfl⟩⟩
  · cases e1

/-! ### comprehensions -/
@[simp] def wipeV (fm : Fm) : List Nat → Fm
  | [] => fm
  | v :: vs => (wipeV fm vs).set v none
theorem wipe_get (σ : L2.St) : ∀ (vs : List Nat) (j : Nat), (wipe σ vs)[j]? = if j ∈ vs ∧ j < σ.length then some none else σ[j]?
  | [], j => by simp [wipe]
  | v :: vs, j => by
    have ih := wipe_get σ vs j
    show ((wipe σ vs).set v none)[j]? = _
    by_cases q : v = j
    · subst q
      by_cases hl : v < σ.length
      · rw [List.getElem?_set_self (by rw [wipe_length]; exact hl), if_pos ⟨List.mem_cons_self, hl⟩]
      · rw [List.getElem?_eq_none (by rw [List.length_set, wipe_length]; omega), if_neg (fun z => hl z.2), List.getElem?_eq_none (by omega)]
    · rw [List.getElem?_set_ne q, ih]
      have : (j ∈ v :: vs) ↔ (j ∈ vs) := by simp [Ne.symm q]
      simp only [this]
theorem wipe_set {σ : L2.St} {vs : List Nat} {i : Nat} {x : Option V} (h : i ∈ vs) : wipe ((wipe σ vs).set i x) vs = wipe σ vs := by
  apply List.ext_getElem?
  intro j
  rw [wipe_get, wipe_get, List.length_set, wipe_length]
  by_cases q : j ∈ vs ∧ j < σ.length
  · rw [if_pos q, if_pos q]
  · rw [if_neg q, if_neg q]
    by_cases e : i = j
    · subst e
      have hl : ¬ i < σ.length := fun z => q ⟨h, z⟩
      rw [List.getElem?_eq_none (by rw [List.length_set, wipe_length]; omega), List.getElem?_eq_none (by omega)]
    · rw [List.getElem?_set_ne e, wipe_get, if_neg q]
theorem wipe_rel {ad : Nat → Option Addr} {H : Hp} {fm : Fm} {sr : L2.St} (r : RSt G ad H fm sr) : ∀ vs : List Nat, (∀ v ∈ vs, G.Free v) → RSt G ad H (wipeV fm vs) (wipe sr vs)
  | [], _ => r
  | v :: vs, fr => by
    have ih := wipe_rel r vs fun u hu => fr u (List.mem_cons_of_mem _ hu)
    refine ⟨by show ((wipeV fm vs).set v none).length = ((wipe sr vs).set v none).length; rw [List.length_set, List.length_set]; exact ih.1, fun i w e => ?_, fun i a e => ?_⟩
    · have e' : ((wipeV fm vs).set v none)[i]? = some (some w) := e
      by_cases q : v = i
      · subst q
        by_cases hl : v < (wipeV fm vs).length
        · rw [List.getElem?_set_self hl] at e'; cases e'
        · rw [List.getElem?_eq_none (by rw [List.length_set]; omega)] at e'; cases e'
      · rw [List.getElem?_set_ne q] at e'
        obtain ⟨v', h1, h2⟩ := ih.2.1 i w e'
        refine ⟨v', ?_, h2⟩
        show ((wipe sr vs).set v none)[i]? = _
        rw [List.getElem?_set_ne q]
        exact h1
    · have q : v ≠ i := fun q => fr v List.mem_cons_self a (by rw [q]; exact e)
      show ((wipe sr vs).set v none)[i]? = _
      rw [List.getElem?_set_ne q]
      exact ih.2.2 i a e
@[simp] def fYes : FT := fun _ h => some (.ok true, h)
abbrev WF : WX := fun _ _ _ _ => False
def lcLoop (src : Sc) (i0 nD : Nat) (ft : FT) (fe : FE) (fm : Fm) : Nat → Nat → VH → Option VH
  | 0, _, _ => none
  | k + 1, i, h => match src.nx h i with
    | none => none
    | some none => some h
    | some (some w) => match ft (fm.set i0 (some w)) h with
      | some (.ok b, h1) => if b = true then (match fe (fm.set i0 (some w)) h1 with
        | some (.ok y, h2) => (match h2[nD]? with
          | some (.pl (.lst acc)) => if acc.length < sizeLine then lcLoop src i0 nD ft fe fm k (i + 1) (h2.set nD (.pl (.lst (acc ++ [y])))) else none
          | _ => none)
        | _ => none) else lcLoop src i0 nD ft fe fm k (i + 1) h1
      | _ => none
@[simp] def fLc (fi : FI) (i0 : Nat) (vs : List Nat) (ft : FT) (fe : FE) : FE := fun fm h => bindM (fi fm h) fun src h1 => match lcLoop src i0 h1.length ft fe (wipeV fm vs) (src.cnt h1 + 1) 0 (h1 ++ [.pl (.lst [])]) with
  | some h2 => some (.ok (.ref h1.length), h2)
  | none => none
theorem lc_read {fi : FI} {i0 : Nat} {vs : List Nat} {ft : FT} {fe : FE} (hi0 : i0 ∈ vs) (fr : ∀ v ∈ vs, G.Free v) {s : L2.St} {H : Hp} {Q : VK} (q : cE G Wx (fLc fi i0 vs ft fe) s H Q) : tLc (cI G Wx fi) (gName i0) (cT G WF ft) (cE G WF fe) vs s H Q := by
  obtain ⟨fm, h, r, h', io, e, E, S, p⟩ := q
  refine cG_step E S e p fun src h1 e1 io1 H1 J x1 E1 rJ => ?_
  intro D nD
  split at e1
  · rename_i h2 e2
    cases e1
    obtain ⟨E2, x2⟩ := E1.alloc (q := .lst []) (o := .lst []) nD trivial ⟨[], upd_same, .nil⟩
    have hD : adr (io1 ++ [[D]]) h1.length = some D := by rw [← E1.len]; exact adr_new
    refine ⟨fun i m Hc => ∃ hc ioc, lcLoop src i0 h1.length ft fe (wipeV fm vs) m i hc = some h' ∧ Emb G ioc hc Hc ∧ Ext (io1 ++ [[D]]) (upd H1 D (.lst [])) ioc Hc, ⟨_, _, _, e2, E2, Ext.refl⟩, ?_⟩
    rintro i m Hc ⟨hc, ioc, ec, Ec, xc⟩
    cases m with
    | zero => simp [lcLoop] at ec
    | succ k =>
      have rJc := (rJ.ext x2).ext xc
      unfold lcLoop at ec
      split at ec
      · cases ec
      · rename_i en
        cases ec
        exact .inl ⟨rJc.stop Ec en, p ioc Hc ((x1.trans x2).trans xc) Ec _ (.ref (xc.root _ _ hD))⟩
      · rename_i w en
        obtain ⟨g1, g2⟩ := rJc.go Ec en
        refine .inr ⟨g1, _, fun H' z => ⟨k, Nat.lt_succ_self k, z⟩, fun x H' y => ?_⟩
        obtain ⟨xa, Ea, ra⟩ := g2 x H' y
        have S1 : RSt G (adr ioc) H' ((wipeV fm vs).set i0 (some w)) ((wipe s vs).set i0 (some x)) := (wipe_rel (S.ext (((x1.trans x2).trans xc).trans xa)) vs fr).set (fr _ hi0) ra
        refine ⟨wipe_set hi0, ?_⟩
        split at ec
        · rename_i b h3 e3
          refine ⟨_, hc, _, h3, ioc, e3, Ea, S1, fun io3 H3 x3 E3 b' hb' => ?_⟩
          cases (show b = b' from hb')
          split at ec
          · rename_i hb
            rw [if_pos hb]
            split at ec
            · rename_i y1 h4 e4
              refine ⟨_, h3, _, h4, io3, e4, E3, S1.ext x3, fun io4 H4 x4 E4 y2 ry => ?_⟩
              split at ec
              · rename_i acc en4
                split at ec
                · rename_i hl
                  obtain ⟨b4, eb1, eb2, us, hv, rvs⟩ := E4.pl en4
                  have hb4 : b4 = D := by
                    have := x4.root _ _ (x3.root _ _ (xa.root _ _ (xc.root _ _ hD)))
                    rw [this] at eb2
                    cases eb2; rfl
                  subst hb4
                  obtain ⟨E5, x5⟩ := E4.write (q := .lst (acc ++ [y1])) (u := .lst (us ++ [y2])) en4 eb1 trivial ⟨us ++ [y2], upd_same, (rvs.append (.cons ry .nil)).wr hv trivial⟩
                  exact ⟨us, hv, by rw [← rvs.length]; exact hl, _, _, ec, E5, (((xc.trans xa).trans x3).trans x4).trans x5⟩
                · cases ec
              · cases ec
            · cases ec
          · rename_i hb
            rw [if_neg hb]
            exact ⟨h3, io3, ec, E3, (xc.trans xa).trans x3⟩
        · cases ec
  · cases e1
theorem se_lc {elt iter : Expr} {ifs : List Expr} {scope : Scope} {fi : FI} {i0 : Nat} {vs : List Nat} {ft : FT} {fe : FE} {x : Str} {px : Pos} (hc : X.calm = true) (hN : X.N.Nodup) (own : List (Str × Nat)) (hvs : own.map (·.2) = vs) (hi : SI G X Wx (.Name x px) iter fi) (ok : BlkOk X.N X.env.scope scope own) (hi0 : i0 ∈ vs)
    (hg : ∀ (s : Shared) (H : Hp) (C : Addr) (cl : List (Str × Addr)) (fp : List Addr), PG (X.blk s H scope (compEnvC scope cl C X.env) fp) (.Name x px) (gName i0)) (ht : ∀ (s : Shared) (H : Hp) (C : Addr) (cl : List (Str × Addr)) (fp : List Addr), PTs (X.blk s H scope (compEnvC scope cl C X.env) fp) ifs (cT G WF ft))
    (he : ∀ (s : Shared) (H : Hp) (C : Addr) (cl : List (Str × Addr)) (fp : List Addr), SE G (X.blk s H scope (compEnvC scope cl C X.env) fp) WF elt fe) (hs : ∀ x, foldedSetIterable iter X.env x = pure x := by intro _; rfl) (fr : ∀ v ∈ vs, G.Free v := by first | exact fun _ _ _ z => nomatch z | (intro v hv a z; simp at hv z; omega)) :
    SE G X Wx (.ListComp elt [⟨.Name x px, iter, ifs, 0⟩] scope pos) (fLc fi i0 vs ft fe) := PEw (pe_lc hc hN hi ok hg ht he hs) fun _ _ _ q => by
  rw [hvs]
  exact lc_read hi0 fr q
theorem sts_nil : PTs X [] (cT G Wx fYes) := ⟨fun pins s σ H Q I q => by
  obtain ⟨fm, h, r, h', io, e, E, S, p⟩ := q
  cases e
  exact pts_nil.run pins s σ H Q I (p.now E (rfl : relB (adr io) H true true))⟩
theorem sts_one {c : Expr} {ft : FT} (h : ST G X Wx c ft) : PTs X [c] (cT G Wx ft) := pts_one h
end
end Tw

namespace Tw
open PySem PySem.Spec PyProof.Rows L2

/-! ### statements -/
inductive Fl where
  | nx | rt (w : W) | bk | ct | ex (c : Nat)
abbrev FSt := Fm → VH → Option (Fl × Fm × VH)
def EndS (G : Gm) (Wx : WX) (ad : Nat → Option Addr) (H : Hp) (sr : L2.St) (D : Ends) : Fl → Prop
  | .nx => D.nx sr H
  | .bk => D.bk sr H
  | .ct => D.ct sr H
  | .rt w => ∀ v, RW G.K ad H w v → D.rt v H
  | .ex c => Wx (.ref (G.C c)) none sr H
def PostS (G : Gm) (Wx : WX) (io : List (List Addr)) (H : Hp) (fl : Fl) (fm' : Fm) (h' : VH) (D : Ends) : Prop := ∀ io' H' sr', Ext io H io' H' → Emb G io' h' H' → RSt G (adr io') H' fm' sr' → EndS G Wx (adr io') H' sr' D fl
theorem PostS.ext {G : Gm} {Wx : WX} {io io1 : List (List Addr)} {H H1 : Hp} {fl : Fl} {fm' : Fm} {h' : VH} {D : Ends} (p : PostS G Wx io H fl fm' h' D) (x : Ext io H io1 H1) : PostS G Wx io1 H1 fl fm' h' D :=
  fun io' H' sr' y E S => p io' H' sr' (x.trans y) E S
def cS (G : Gm) (Wx : WX) (f : FSt) : TS := fun D sr H => ∃ fm h fl fm' h' io, f fm h = some (fl, fm', h') ∧ Emb G io h H ∧ RSt G (adr io) H fm sr ∧ PostS G Wx io H fl fm' h' D
abbrev SS (G : Gm) (X : Cx) (Wx : WX) (st : Stmt) (f : FSt) : Prop := PS X st (cS G Wx f)
abbrev SSs (G : Gm) (X : Cx) (Wx : WX) (st : List Stmt) (f : FSt) : Prop := PSs X st (cS G Wx f)
@[simp] def bindS {A : Type} (m : Option (Rs A × VH)) (fm : Fm) (k : A → VH → Option (Fl × Fm × VH)) : Option (Fl × Fm × VH) := match m with
  | none => none
  | some (.ok a, h) => k a h
  | some (.ex c, h) => some (.ex c, fm, h)
theorem bindS_cases {A : Type} {m : Option (Rs A × VH)} {fm fm' : Fm} {k : A → VH → Option (Fl × Fm × VH)} {fl : Fl} {h' : VH} (e : bindS m fm k = some (fl, fm', h')) : (∃ a h1, m = some (.ok a, h1) ∧ k a h1 = some (fl, fm', h')) ∨ ∃ c, m = some (.ex c, h') ∧ fl = .ex c ∧ fm' = fm := by
  unfold bindS at e
  split at e
  · cases e
  · exact .inl ⟨_, _, rfl, e⟩
  · cases e; exact .inr ⟨_, rfl, rfl, rfl⟩
section
variable {G : Gm} {X : Cx} {Wx : WX}
theorem cS_step {A B : Type} {rel : (Nat → Option Addr) → Hp → A → B → Prop} {f : Fm → VH → Option (Rs A × VH)} {k : A → VH → Option (Fl × Fm × VH)} {fm fm' : Fm} {h h' : VH} {fl : Fl} {io : List (List Addr)} {H : Hp} {sr : L2.St}
    {D : Ends} {R : B → Hp → Prop} (E : Emb G io h H) (S : RSt G (adr io) H fm sr) (e : bindS (f fm h) fm k = some (fl, fm', h')) (p : PostS G Wx io H fl fm' h' D)
    (hk : ∀ a h1, k a h1 = some (fl, fm', h') → ∀ io1 H1 v, Ext io H io1 H1 → Emb G io1 h1 H1 → rel (adr io1) H1 a v → R v H1) : cG G Wx rel f sr H R := by
  rcases bindS_cases e with ⟨a, h1, e1, e2⟩ | ⟨c, e1, e2, e3⟩
  · exact ⟨fm, h, _, h1, io, e1, E, S, fun io1 H1 x E1 v rv => hk a h1 e2 io1 H1 v x E1 rv⟩
  · subst e2 e3
    exact ⟨_, h, _, h', io, e1, E, S, fun io1 H1 x E1 => p io1 H1 sr x E1 (S.ext x)⟩
theorem cS_last {f : FSt} {fm fm' : Fm} {h h' : VH} {fl : Fl} {io : List (List Addr)} {H : Hp} {sr : L2.St} {D : Ends} (E : Emb G io h H) (S : RSt G (adr io) H fm sr) (e : f fm h = some (fl, fm', h')) (p : PostS G Wx io H fl fm' h' D) : cS G Wx f D sr H := ⟨fm, h, fl, fm', h', io, e, E, S, p⟩
theorem PostS.now {io : List (List Addr)} {H : Hp} {fm' : Fm} {h' : VH} {D : Ends} {sr : L2.St} (p : PostS G Wx io H .nx fm' h' D) (E : Emb G io h' H) (S : RSt G (adr io) H fm' sr) : D.nx sr H := p io H sr Ext.refl E S
variable {e o i c value : Expr} {f fo fi fv : FE} {fs : List FE} {fas : FA} {ft : FT} {g1 g2 : FSt} {pos pos' apos : Pos} {st : Stmt} {rest sts sts2 : List Stmt} {x : Str} {j n : Nat}
/-! ### blocks -/
@[simp] def fNil : FSt := fun fm h => some (.nx, fm, h)
@[simp] def fSeq (f g : FSt) : FSt := fun fm h => match f fm h with
  | some (.nx, fm1, h1) => g fm1 h1
  | r => r
theorem sss_nil : SSs G X Wx [] fNil := PSsw pss_nil fun D s H q => by
  obtain ⟨fm, h, fl, fm', h', io, e, E, S, p⟩ := q
  cases e
  exact p.now E S
theorem seq_read {D : Ends} {s : L2.St} {H : Hp} (q : cS G Wx (fSeq g1 g2) D s H) : tSeq (cS G Wx g1) (cS G Wx g2) D s H := by
  obtain ⟨fm, h, fl, fm', h', io, e, E, S, p⟩ := q
  unfold fSeq at e
  split at e
  · rename_i fm1 h1 e1
    exact ⟨fm, h, .nx, fm1, h1, io, e1, E, S, fun io1 H1 sr1 x1 E1 S1 => cS_last E1 S1 e (p.ext x1)⟩
  · rename_i hn
    refine ⟨fm, h, fl, fm', h', io, e, E, S, fun io1 H1 sr1 x1 E1 S1 => ?_⟩
    have z := p io1 H1 sr1 x1 E1 S1
    cases fl with
    | nx => exact (hn _ _ e).elim
    | rt w => exact z
    | bk => exact z
    | ct => exact z
    | ex c => exact z
theorem sss_cons (h1 : SS G X Wx st g1) (h2 : SSs G X Wx rest g2) : SSs G X Wx (st :: rest) (fSeq g1 g2) := PSsw (pss_cons h1 h2) fun _ _ _ q => seq_read q
theorem sss_one (h1 : SS G X Wx st g1) : SSs G X Wx [st] g1 := pss_one h1
theorem ss_pass : SS G X Wx (.Pass pos) fNil := PSw ps_pass fun D s H q => by
  obtain ⟨fm, h, fl, fm', h', io, e, E, S, p⟩ := q
  cases e
  exact p.now E S
@[simp] def fDo (f : FE) : FSt := fun fm h => bindS (f fm h) fm fun _ h1 => some (.nx, fm, h1)
theorem ss_expr (he : SE G X Wx e f) (hs : swapsWith e none pos.line X.env = pure false := by rfl) : SS G X Wx (.Expr e pos) (fDo f) := PSw (ps_expr he hs) fun D s H q => by
  obtain ⟨fm, h, fl, fm', h', io, e, E, S, p⟩ := q
  refine cS_step E S e p fun a h1 e1 io1 H1 v x1 E1 rv => ?_
  cases e1
  exact p io1 H1 s x1 E1 (S.ext x1)
@[simp] def fRet (f : FE) : FSt := fun fm h => bindS (f fm h) fm fun w h1 => some (.rt w, fm, h1)
theorem ss_ret (he : SE G X Wx e f) : SS G X Wx (.Return (some e) pos) (fRet f) := PSw (ps_ret he) fun D s H q => by
  obtain ⟨fm, h, fl, fm', h', io, e, E, S, p⟩ := q
  refine cS_step E S e p fun a h1 e1 io1 H1 v x1 E1 rv => ?_
  cases e1
  exact p io1 H1 s x1 E1 (S.ext x1) v rv
@[simp] def fIfS (ft : FT) (g1 g2 : FSt) : FSt := fun fm h => bindS (ft fm h) fm fun b h1 => if b = true then g1 fm h1 else g2 fm h1
theorem ss_if (hc : ST G X Wx c ft) (ha : SSs G X Wx sts g1) (hb : SSs G X Wx sts2 g2) : SS G X Wx (.If c sts sts2 pos) (fIfS ft g1 g2) := PSw (ps_if hc ha hb) fun D s H q => by
  obtain ⟨fm, h, fl, fm', h', io, e, E, S, p⟩ := q
  refine cS_step E S e p fun a h1 e1 io1 H1 v x1 E1 rv => ?_
  cases (show a = v from rv)
  split at e1
  · rename_i hb
    rw [if_pos hb]
    exact cS_last E1 (S.ext x1) e1 (p.ext x1)
  · rename_i hb
    rw [if_neg hb]
    exact cS_last E1 (S.ext x1) e1 (p.ext x1)
/-! ### stores -/
@[simp] def fSet (i : Nat) (f : FE) : FSt := fun fm h => bindS (f fm h) fm fun w h1 => some (.nx, fm.set i (some w), h1)
theorem set_read {i : Nat} (fr : G.Free i) {D : Ends} {s : L2.St} {H : Hp} (q : cS G Wx (fSet i f) D s H) : tAsg (cE G Wx f) (gName i) D s H := by
  obtain ⟨fm, h, fl, fm', h', io, e, E, S, p⟩ := q
  refine cS_step E S e p fun a h1 e1 io1 H1 v x1 E1 rv => ?_
  cases e1
  exact p io1 H1 _ x1 E1 ((S.ext x1).set fr rv)
theorem ss_set (i : Nat) (hN : X.N.Nodup) (he : SE G X Wx e f) (hi : X.N[i]? = some x := by rfl) (hx : Loc X.env.scope x := by first | exact Or.inl rfl | exact Or.inr rfl) (hs : swapsWith e (some (.Name x pos')) pos.line X.env = pure false := by rfl) (hf : X.fn x = true ∨ X.env.scope.names.lookup x = some .local := by first | exact .inl rfl | exact .inr rfl | assumption) (fr : G.Free i := by first | exact fun _ z => nomatch z | (intro _ z; simp at z)) :
    SS G X Wx (.Assign [.Name x pos'] e pos) (fSet i f) := PSw (ps_set hN hi hx he hs hf) fun _ _ _ q => set_read fr q
theorem ss_setLc (i : Nat) {py : Pos} {elt iter : Expr} {ifs : List Expr} {scope : Scope} {pos spos : Pos} {fi : FI} {i0 : Nat} {vs : List Nat} {ft : FT} {fe : FE} {y : Str} {px : Pos} (hc : X.calm = true) (hN : X.N.Nodup) (hy : X.N[i]? = some y) (hyl : X.env.scope.names.lookup y = some .local)
    (hsw : swapsWith (.ListComp elt [⟨.Name x px, iter, ifs, 0⟩] scope pos) (some (.Name y py)) spos.line X.env = pure true) (own : List (Str × Nat)) (hvs : own.map (·.2) = vs) (hi : SI G X Wx (.Name x px) iter fi) (ok : BlkOk X.N X.env.scope scope own) (hi0 : i0 ∈ vs)
    (hg : ∀ (s : Shared) (H : Hp) (C : Addr) (cl : List (Str × Addr)) (fp : List Addr), PG (X.blk s H scope (compEnvC scope cl C X.env) fp) (.Name x px) (gName i0)) (ht : ∀ (s : Shared) (H : Hp) (C : Addr) (cl : List (Str × Addr)) (fp : List Addr), PTs (X.blk s H scope (compEnvC scope cl C X.env) fp) ifs (cT G WF ft))
    (he : ∀ (s : Shared) (H : Hp) (C : Addr) (cl : List (Str × Addr)) (fp : List Addr), SE G (X.blk s H scope (compEnvC scope cl C X.env) fp) WF elt fe) (hs : ∀ x, foldedSetIterable iter X.env x = pure x := by intro _; rfl) (frv : ∀ v ∈ vs, G.Free v := by first | exact fun _ _ _ z => nomatch z | (intro v hv a z; simp at hv z; omega)) (fr : G.Free i := by first | exact fun _ z => nomatch z | (intro _ z; simp at z)) :
    SS G X Wx (.Assign [.Name y py] (.ListComp elt [⟨.Name x px, iter, ifs, 0⟩] scope pos) spos) (fSet i (fLc fi i0 vs ft fe)) := PSw (ps_setLc hc hN hy hyl hsw hi ok hg ht he hs) fun D s H q => by
  rw [hvs]
  obtain ⟨fm, h, fl, fm', h', io, e, E, S, p⟩ := q
  refine lc_read hi0 frv ?_
  refine cS_step E S e p fun a h1 e1 io1 H1 v x1 E1 rv => ?_
  cases e1
  exact p io1 H1 _ x1 E1 ((S.ext x1).set fr rv)
/-- o.f = value, f the j-th field of the class c -/
@[simp] def fSetF (c j : Nat) (fo fv : FE) : FSt := fun fm h => bindS (fv fm h) fm fun v h1 => bindS (fo fm h1) fm fun w h2 => match w with
  | .ref n => (match h2[n]? with
    | some (.pl (.ins c' fs)) => if c' = c then (if j < fs.length then some (.nx, fm, h2.set n (.pl (.ins c (fs.set j v)))) else if j = fs.length then some (.nx, fm, h2.set n (.pl (.ins c (fs ++ [v])))) else none) else none
    | _ => none)
  | _ => none
theorem ss_setF (c j : Nat) (cl : Cls G.K (G.C c)) (na : NoAttr G.K (G.C c) x) (hx : (G.fl c)[j]? = some x) (hK : X.K = G.K) (ho : SE G X Wx o fo) (hv : SE G X Wx value fv) (hs : swapsWith value (some (.Attribute o x pos')) pos.line X.env = pure false := by rfl) :
    SS G X Wx (.Assign [.Attribute o x pos'] value pos) (fSetF c j fo fv) := PSw (ps_fld ho hv hs) fun D s H q => by
  obtain ⟨fm, h, fl, fm', h', io, e, E, S, p⟩ := q
  refine cS_step E S e p fun a h1 e1 io1 H1 v x1 E1 rv => ?_
  refine cS_step E1 (S.ext x1) e1 (p.ext x1) fun b h2 e2 io2 H2 u x2 E2 ru => ?_
  split at e2
  · split at e2
    · rename_i n _ c' fs hn
      split at e2
      · rename_i hc
        subst hc
        obtain ⟨b, rfl, ei, vs, dx, hvv, rvs, hl, nd, h500⟩ := E2.ref hn ru
        have hjl : j < (G.fl c').length := (List.getElem?_eq_some_iff.mp hx).1
        have rv2 := rv.ext x2
        refine ⟨b, _, dx, _, rfl, hvv, by rw [hK]; exact cl, by rw [hK]; exact na, ?_, ?_⟩
        · unfold zipF
          rw [List.length_zip]
          omega
        · split at e2
          · rename_i hj
            cases e2
            rw [zipF_put nd hx (by rw [← rvs.length]; exact hj)]
            obtain ⟨E3, x3⟩ := E2.write (q := .ins c' (fs.set j a)) (u := .ins (G.C c') dx (zipF (G.fl c') (vs.set j v))) hn ei trivial ⟨vs.set j v, dx, upd_same, (rvs.set rv2 j).wr hvv trivial, by simpa using hl, nd, h500⟩
            exact p _ _ s ((x1.trans x2).trans x3) E3 (S.ext ((x1.trans x2).trans x3))
          · split at e2
            · rename_i hj
              cases e2
              rw [zipF_app nd (by rw [← rvs.length, ← hj]; exact hx)]
              obtain ⟨E3, x3⟩ := E2.write (q := .ins c' (fs ++ [a])) (u := .ins (G.C c') dx (zipF (G.fl c') (vs ++ [v]))) hn ei trivial ⟨vs ++ [v], dx, upd_same, (rvs.append (.cons rv2 .nil)).wr hvv trivial, by simp; omega, nd, h500⟩
              exact p _ _ s ((x1.trans x2).trans x3) E3 (S.ext ((x1.trans x2).trans x3))
            · cases e2
      · cases e2
    · cases e2
  · cases e2
/-- xs[i] = value -/
@[simp] def fSetL (fo fi fv : FE) : FSt := fun fm h => bindS (fv fm h) fm fun v h1 => bindS (fo fm h1) fm fun w h2 => bindS (fi fm h2) fm fun k h3 => match k with
  | .int k => (match lstOf h3 w with
    | some (n, xs) => (match ixN xs.length k with
      | some j => some (.nx, fm, h3.set n (.pl (.lst (xs.set j v))))
      | none => none)
    | none => none)
  | _ => none
theorem ss_setL (ho : SE G X Wx o fo) (hi : SE G X Wx i fi) (hv : SE G X Wx value fv)
    (ha : ∀ v, assign (.Subscript o i pos') X.env v = (do
      let ov ← holding [v] (eval o X.env)
      let iv ← holding [v, ov] (eval i X.env)
      standAt pos'
      holding [v, ov, iv] (setItem ov iv v)
      release [v, ov, iv] []) := by intro _; rfl)
    (hs : swapsWithSole [.Subscript o i pos'] value pos.line X.env = pure false := by rfl) (hw : swappedStores [.Subscript o i pos'] value X.env = pure none := by rfl)
    (h1 : (assignEach [.Subscript o i pos'] X.env).map (·.2) = [assign (.Subscript o i pos') X.env] := by rfl) : SS G X Wx (.Assign [.Subscript o i pos'] value pos) (fSetL fo fi fv) := PSw (ps_asg hv (pg_sub ho hi set_list ha) hs hw h1) fun D s H q => by
  obtain ⟨fm, h, fl, fm', h', io, e, E, S, p⟩ := q
  refine cS_step E S e p fun a h1 e1 io1 H1 v x1 E1 rv => ?_
  refine cS_step E1 (S.ext x1) e1 (p.ext x1) fun b h2 e2 io2 H2 u x2 E2 ru => ?_
  refine cS_step E2 (S.ext (x1.trans x2)) e2 (p.ext (x1.trans x2)) fun k h3 e3 io3 H3 y x3 E3 ry => ?_
  split at e3
  · split at e3
    · rename_i n xs el
      split at e3
      · rename_i j hj
        cases e3; cases ry
        obtain ⟨b, us, rfl, hn, ei, hvv, rvs⟩ := lstOf_r E3 el (ru.ext x3)
        refine ⟨b, us, _, j, rfl, rfl, hvv, by rw [← rvs.length]; exact hj, ?_⟩
        obtain ⟨E4, x4⟩ := E3.write (q := .lst (xs.set j a)) (u := .lst (us.set j v)) hn ei trivial ⟨us.set j v, upd_same, (rvs.set ((rv.ext x2).ext x3) j).wr hvv trivial⟩
        exact p _ _ s (((x1.trans x2).trans x3).trans x4) E4 (S.ext (((x1.trans x2).trans x3).trans x4))
      · cases e3
    · cases e3
  · cases e3
/-- d["key"] = value -/
@[simp] def fSetR (d j : Nat) (fo fv : FE) : FSt := fun fm h => bindS (fv fm h) fm fun v h1 => bindS (fo fm h1) fm fun w h2 => match w with
  | .ref n => (match h2[n]? with
    | some (.pl (.rcd d' fs)) => if d' = d ∧ j < fs.length then some (.nx, fm, h2.set n (.pl (.rcd d (fs.set j v)))) else none
    | _ => none)
  | _ => none
theorem ss_setR (d j : Nat) {k : Nat} {p1 : Pos} (hu : X.A.units + 1 < cLine) (hx : (G.rk d)[j]? = some x) (h100 : (G.rk d).length ≤ 100) (ho : SE G X Wx o fo) (hv : SE G X Wx value fv) (hs : swapsWith value (some (.Subscript o (.Constant (.str x) k p1) pos')) pos.line X.env = pure false := by rfl) :
    SS G X Wx (.Assign [.Subscript o (.Constant (.str x) k p1) pos'] value pos) (fSetR d j fo fv) := PSw (ps_dput hu ho pe_str hv hs) fun D s H q => by
  obtain ⟨fm, h, fl, fm', h', io, e, E, S, p⟩ := q
  refine cS_step E S e p fun a h1 e1 io1 H1 v x1 E1 rv => ?_
  refine cS_step E1 (S.ext x1) e1 (p.ext x1) fun b h2 e2 io2 H2 u x2 E2 ru => ?_
  split at e2
  · split at e2
    · rename_i n _ c' fs hn
      split at e2
      · rename_i hc
        cases e2
        obtain ⟨hc1, hc2⟩ := hc
        subst hc1
        obtain ⟨b, rfl, ei, vs, hvv, rvs, hl, nd⟩ := E2.ref hn ru
        have rv2 := rv.ext x2
        have hlen : (zipK (G.rk c') vs).length < sizeLine := by
          unfold zipK
          rw [List.length_zip, List.length_map, sizeLine_eq]
          omega
        refine ⟨b, _, rfl, DPut.k (k := Sum.inr x) hvv hlen, ?_⟩
        rw [zipK_put nd hx (by rw [← rvs.length]; exact hc2)]
        obtain ⟨E3, x3⟩ := E2.write (q := .rcd c' (fs.set j a)) (u := .dK (zipK (G.rk c') (vs.set j v))) hn ei trivial ⟨vs.set j v, upd_same, (rvs.set rv2 j).wr hvv trivial, by simpa using hl, nd⟩
        exact p _ _ s ((x1.trans x2).trans x3) E3 (S.ext ((x1.trans x2).trans x3))
      · cases e2
    · cases e2
  · cases e2
/-- d[k] = value, k a number that is new -/
@[simp] def fSetD (fo fi fv : FE) : FSt := fun fm h => bindS (fv fm h) fm fun v h1 => bindS (fo fm h1) fm fun w h2 => bindS (fi fm h2) fm fun k h3 => match k with
  | .int k => (match dctOf h3 w with
    | some (n, kvs) => if (dget k kvs).isNone = true ∧ kvs.length < sizeLine then some (.nx, fm, h3.set n (.pl (.dct (kvs ++ [(k, v)])))) else none
    | none => none)
  | _ => none
end
end Tw

namespace Tw
open PySem PySem.Spec PyProof.Rows L2
section
variable {G : Gm} {X : Cx} {Wx : WX}
variable {e o i c value : Expr} {f fo fi fv : FE} {fs : List FE} {fas : FA} {ft : FT} {g1 g2 : FSt} {pos pos' apos : Pos} {st : Stmt} {rest sts sts2 : List Stmt} {x : Str} {j n : Nat}
theorem ss_setD (hu : X.A.units + 1 < cLine) (ho : SE G X Wx o fo) (hi : SE G X Wx i fi) (hv : SE G X Wx value fv) (hs : swapsWith value (some (.Subscript o i pos')) pos.line X.env = pure false := by rfl) :
    SS G X Wx (.Assign [.Subscript o i pos'] value pos) (fSetD fo fi fv) := PSw (ps_dput hu ho hi hv hs) fun D s H q => by
  obtain ⟨fm, h, fl, fm', h', io, e, E, S, p⟩ := q
  refine cS_step E S e p fun a h1 e1 io1 H1 v x1 E1 rv => ?_
  refine cS_step E1 (S.ext x1) e1 (p.ext x1) fun b h2 e2 io2 H2 u x2 E2 ru => ?_
  refine cS_step E2 (S.ext (x1.trans x2)) e2 (p.ext (x1.trans x2)) fun k h3 e3 io3 H3 y x3 E3 ry => ?_
  split at e3
  · split at e3
    · rename_i n kvs el
      split at e3
      · rename_i hc
        cases e3; cases ry
        obtain ⟨b, k', rfl, hn, ei, hvv, rk⟩ := dctOf_r E3 el (ru.ext x3)
        refine ⟨b, _, rfl, DPut.k (k := Sum.inl _) hvv (by rw [← rk.len]; exact hc.2), ?_⟩
        have hnone : dget _ kvs = none := Option.isNone_iff_eq_none.mp hc.1
        obtain ⟨E4, x4⟩ := E3.write (q := .dct (kvs ++ [(_, a)])) (u := .dK (putK k' (Sum.inl _) v)) hn ei trivial ⟨_, upd_same, (dput_r ((rv.ext x2).ext x3) rk hnone).wr hvv trivial⟩
        exact p _ _ s (((x1.trans x2).trans x3).trans x4) E4 (S.ext (((x1.trans x2).trans x3).trans x4))
      · cases e3
    · cases e3
  · cases e3
/-! ### targets -/
abbrev GT := W → Fm → Option Fm
def SimG (G : Gm) (g : TG) (gt : GT) : Prop := ∀ w fm fm', gt w fm = some fm' → ∀ io h H sr v Q, Emb G io h H → RSt G (adr io) H fm sr → RW G.K (adr io) H w v → (∀ sr', RSt G (adr io) H fm' sr' → Q sr' H) → g v sr H Q
def SimGs (G : Gm) (g : TGs) (gt : List W → Fm → Option Fm) : Prop := ∀ w fm fm', gt w fm = some fm' → ∀ io h H sr v Q, Emb G io h H → RSt G (adr io) H fm sr → RWs G.K (adr io) H w v → (∀ sr', RSt G (adr io) H fm' sr' → Q sr' H) → g v sr H Q
@[simp] def gtName (i : Nat) : GT := fun w fm => some (fm.set i (some w))
@[simp] def gtNil : List W → Fm → Option Fm := fun ws fm => match ws with
  | [] => some fm
  | _ => none
@[simp] def gtCons (i : Nat) (g : List W → Fm → Option Fm) : List W → Fm → Option Fm := fun ws fm => match ws with
  | w :: ws => g ws (fm.set i (some w))
  | _ => none
@[simp] def gtTup (g : List W → Fm → Option Fm) : GT := fun w fm => match w with
  | .tup ws => g ws fm
  | _ => none
theorem sim_gname (i : Nat) (fr : G.Free i := by first | exact fun _ z => nomatch z | (intro _ z; simp at z)) : SimG G (gName i) (gtName i) := by
  intro w fm fm' e io h H sr v Q E S r k
  cases e
  exact k _ (S.set fr r)
theorem sim_gnil : SimGs G gNil gtNil := by
  intro w fm fm' e io h H sr v Q E S r k
  unfold gtNil at e
  split at e
  · cases e; cases r
    exact ⟨rfl, k _ S⟩
  · cases e
theorem sim_gcons (i : Nat) {t : TGs} {g : List W → Fm → Option Fm} (hg : SimGs G t g) (fr : G.Free i := by first | exact fun _ z => nomatch z | (intro _ z; simp at z)) : SimGs G (gCons (gName i) t) (gtCons i g) := by
  intro w fm fm' e io h H sr v Q E S r k
  unfold gtCons at e
  split at e
  · cases r with
    | cons r1 r2 => exact ⟨_, _, rfl, hg _ _ _ e io h H _ _ Q E (S.set fr r1) r2 k⟩
  · cases e
theorem gt_len : ∀ {g : List W → Fm → Option Fm} {n : Nat}, (∀ ws fm fm', g ws fm = some fm' → ws.length = n) → ∀ {i : Nat} ws fm fm', gtCons i g ws fm = some fm' → ws.length = n + 1 := fun {g n} h {i} ws fm fm' e => by
  unfold gtCons at e
  split at e
  · rw [List.length_cons, h _ _ _ e]
  · cases e
theorem gtNil_len : ∀ ws fm fm', gtNil ws fm = some fm' → ws.length = 0 := fun ws fm fm' e => by
  unfold gtNil at e
  split at e
  · rfl
  · cases e
theorem sim_gtup {t : TGs} {g : List W → Fm → Option Fm} {n : Nat} (hg : SimGs G t g) (hl : ∀ ws fm fm', g ws fm = some fm' → ws.length = n) : SimG G (gTup G.K n t) (gtTup g) := by
  intro w fm fm' e io h H sr v Q E S r k
  unfold gtTup at e
  split at e
  · cases r with
    | tup ha hr => exact ⟨_, _, rfl, .inl (.inl ha), by rw [← hr.length]; exact hl _ _ _ e, hg _ _ _ e io h H _ _ Q E S hr k⟩
  · cases e
/-- (a, b, ..) = value -/
@[simp] def fAsg (gt : GT) (f : FE) : FSt := fun fm h => bindS (f fm h) fm fun w h1 => match gt w fm with
  | some fm1 => some (.nx, fm1, h1)
  | none => none
theorem ss_asg {tg : Expr} {g : TG} {gt : GT} (he : SE G X Wx e f) (hg : PG X tg g) (sg : SimG G g gt) (hs : swapsWithSole [tg] e pos.line X.env = pure false := by rfl) (hw : swappedStores [tg] e X.env = pure none := by rfl)
    (h1 : (assignEach [tg] X.env).map (·.2) = [assign tg X.env] := by rfl) : SS G X Wx (.Assign [tg] e pos) (fAsg gt f) := PSw (ps_asg he hg hs hw h1) fun D s H q => by
  obtain ⟨fm, h, fl, fm', h', io, e, E, S, p⟩ := q
  refine cS_step E S e p fun a h9 e1 io1 H1 v x1 E1 rv => ?_
  split at e1
  · rename_i fm1 e2
    cases e1
    exact sg _ _ _ e2 io1 _ H1 s v _ E1 (S.ext x1) rv fun sr' S' => p io1 H1 sr' x1 E1 S'
  · cases e1
/-- a, b = x, y -/
@[simp] def fPar2 (i j : Nat) (fs : List FE) : FSt := fun fm h => bindS (fAll fs fm h) fm fun ws h1 => match ws with
  | [v, w] => some (.nx, (fm.set i (some v)).set j (some w), h1)
  | _ => none
theorem ss_par2 (i j : Nat) {x y : Str} {a b : Expr} {px py pt : Pos} {kt k2 pt2} (hc : X.calm = true) (hN : X.N.Nodup) (ha : SA G X Wx [a, b] (fAll fs)) (hij : i ≠ j := by decide) (hi : X.N[i]? = some x := by rfl) (hj : X.N[j]? = some y := by rfl)
    (hx : X.env.scope.names.lookup x = some .local := by rfl) (hy : X.env.scope.names.lookup y = some .local := by rfl)
    (hw : swappedStores [.Tuple [.Name x px, .Name y py] kt pt] (.Tuple [a, b] k2 pt2) X.env = pure (some [x, y]) := by rfl)
    (hs : swapsWithSole [.Tuple [.Name x px, .Name y py] kt pt] (.Tuple [a, b] k2 pt2) pos.line X.env = pure false := by rfl) (fri : G.Free i := by first | exact fun _ z => nomatch z | (intro _ z; simp at z)) (frj : G.Free j := by first | exact fun _ z => nomatch z | (intro _ z; simp at z)) :
    SS G X Wx (.Assign [.Tuple [.Name x px, .Name y py] kt pt] (.Tuple [a, b] k2 pt2) pos) (fPar2 i j fs) := PSw (ps_par hc hN hi hj hij hx hy ha hw hs) fun D s H q => by
  obtain ⟨fm, h, fl, fm', h', io, e, E, S, p⟩ := q
  refine cS_step E S e p fun a h1 e1 io1 H1 v x1 E1 rv => ?_
  split at e1
  · cases e1
    obtain ⟨u, w, rfl, ru, rw_⟩ := rws2 rv
    exact ⟨u, w, rfl, p io1 H1 _ x1 E1 (((S.ext x1).set fri ru).set frj rw_)⟩
  · cases e1
@[simp] def fPar3 (i j l : Nat) (fs : List FE) : FSt := fun fm h => bindS (fAll fs fm h) fm fun ws h1 => match ws with
  | [u, v, w] => some (.nx, ((fm.set i (some u)).set j (some v)).set l (some w), h1)
  | _ => none
theorem ss_par3 (i j l : Nat) {x y z : Str} {a b c : Expr} {px py pz pt : Pos} {kt k2 pt2} (hc : X.calm = true) (hN : X.N.Nodup) (ha : SA G X Wx [a, b, c] (fAll fs)) (hij : i ≠ j := by decide) (hil : i ≠ l := by decide) (hjl : j ≠ l := by decide) (hi : X.N[i]? = some x := by rfl) (hj : X.N[j]? = some y := by rfl) (hl : X.N[l]? = some z := by rfl)
    (hx : X.env.scope.names.lookup x = some .local := by rfl) (hy : X.env.scope.names.lookup y = some .local := by rfl) (hz : X.env.scope.names.lookup z = some .local := by rfl)
    (hw : swappedStores [.Tuple [.Name x px, .Name y py, .Name z pz] kt pt] (.Tuple [a, b, c] k2 pt2) X.env = pure (some [x, y, z]) := by rfl)
    (hs : swapsWithSole [.Tuple [.Name x px, .Name y py, .Name z pz] kt pt] (.Tuple [a, b, c] k2 pt2) pos.line X.env = pure false := by rfl) (fri : G.Free i := by first | exact fun _ z => nomatch z | (intro _ z; simp at z)) (frj : G.Free j := by first | exact fun _ z => nomatch z | (intro _ z; simp at z)) (frl : G.Free l := by first | exact fun _ z => nomatch z | (intro _ z; simp at z)) :
    SS G X Wx (.Assign [.Tuple [.Name x px, .Name y py, .Name z pz] kt pt] (.Tuple [a, b, c] k2 pt2) pos) (fPar3 i j l fs) := PSw (ps_par3 hc hN hi hj hl hij hil hjl hx hy hz ha hw hs) fun D s H q => by
  obtain ⟨fm, h, fl, fm', h', io, e, E, S, p⟩ := q
  refine cS_step E S e p fun a h1 e1 io1 H1 v x1 E1 rv => ?_
  split at e1
  · cases e1
    cases rv with
    | cons r1 rr =>
      obtain ⟨u, w, rfl, ru, rw_⟩ := rws2 rr
      exact ⟨_, u, w, rfl, p io1 H1 _ x1 E1 ((((S.ext x1).set fri r1).set frj ru).set frl rw_)⟩
  · cases e1
/-! ### loops -/
def forLoop (src : Sc) (gt : GT) (fb : FSt) : Nat → Nat → Fm → VH → Option (Fl × Fm × VH)
  | 0, _, _, _ => none
  | k + 1, i, fm, h => match src.nx h i with
    | none => none
    | some none => some (.nx, fm, h)
    | some (some w) => match gt w fm with
      | none => none
      | some fm1 => match fb fm1 h with
        | none => none
        | some (.nx, fm2, h2) => forLoop src gt fb k (i + 1) fm2 h2
        | some (.ct, fm2, h2) => forLoop src gt fb k (i + 1) fm2 h2
        | some (.bk, fm2, h2) => some (.nx, fm2, h2)
        | some (.rt w, fm2, h2) => some (.rt w, fm2, h2)
        | some (.ex c, fm2, h2) => some (.ex c, fm2, h2)
@[simp] def fFor (fi : FI) (gt : GT) (fb : FSt) : FSt := fun fm h => bindS (fi fm h) fm fun src h1 => forLoop src gt fb (src.cnt h1 + 1) 0 fm h1
theorem ss_for {tg iter : Expr} {fi : FI} {g : TG} {gt : GT} {fb : FSt} (hp : PassesOwn (model X.prog X.w) X.A X.env X.xe) (hc : X.calm = true) (hi : SI G X Wx tg iter fi) (hg : PG X tg g) (sg : SimG G g gt) (hb : SSs G X Wx sts fb)
    (hs : ∀ x, foldedSetIterable iter X.env x = pure x := by intro _; rfl) : SS G X Wx (.For tg iter sts [] pos) (fFor fi gt fb) := PSw (ps_for hp hc hi hg hb hs) fun D s H q => by
  obtain ⟨fm, h, fl, fm', h', io, e, E, S, p⟩ := q
  refine cS_step E S e p fun src h1 e1 io1 H1 J x1 E1 rJ => ?_
  refine ⟨fun i m sr Hc => ∃ fmc hc ioc, forLoop src gt fb m i fmc hc = some (fl, fm', h') ∧ Emb G ioc hc Hc ∧ RSt G (adr ioc) Hc fmc sr ∧ Ext io1 H1 ioc Hc, ⟨_, fm, h1, io1, e1, E1, S.ext x1, Ext.refl⟩, ?_⟩
  rintro i m sr Hc ⟨fmc, hc, ioc, ec, Ec, Sc', xc⟩
  cases m with
  | zero => simp [forLoop] at ec
  | succ k =>
    have rJc := rJ.ext xc
    unfold forLoop at ec
    split at ec
    · cases ec
    · rename_i en
      cases ec
      exact .inl ⟨rJc.stop Ec en, p ioc Hc sr (x1.trans xc) Ec Sc'⟩
    · rename_i w en
      obtain ⟨q1, q2⟩ := rJc.go Ec en
      refine .inr ⟨q1, _, fun sr' H' z => ⟨k, Nat.lt_succ_self k, z⟩, fun x H' y => ?_⟩
      obtain ⟨xa, Ea, ra⟩ := q2 x H' y
      split at ec
      · cases ec
      · rename_i fm1 eg
        refine sg _ _ _ eg ioc hc H' sr x _ Ea (Sc'.ext xa) ra fun sr1 S1 => ?_
        split at ec
        · cases ec
        · rename_i fm2 h2 e2
          exact cS_last Ea S1 e2 fun io2 H2 sr2 x2 E2 S2 => ⟨fm2, h2, io2, ec, E2, S2, (xc.trans xa).trans x2⟩
        · rename_i fm2 h2 e2
          exact cS_last Ea S1 e2 fun io2 H2 sr2 x2 E2 S2 => ⟨fm2, h2, io2, ec, E2, S2, (xc.trans xa).trans x2⟩
        · rename_i fm2 h2 e2
          cases ec
          exact cS_last Ea S1 e2 fun io2 H2 sr2 x2 E2 S2 => p io2 H2 sr2 (((x1.trans xc).trans xa).trans x2) E2 S2
        · rename_i w2 fm2 h2 e2
          cases ec
          exact cS_last Ea S1 e2 fun io2 H2 sr2 x2 E2 S2 => p io2 H2 sr2 (((x1.trans xc).trans xa).trans x2) E2 S2
        · rename_i c2 fm2 h2 e2
          cases ec
          exact cS_last Ea S1 e2 fun io2 H2 sr2 x2 E2 S2 => p io2 H2 sr2 (((x1.trans xc).trans xa).trans x2) E2 S2
def whLoop (ft : FT) (fb : FSt) : Nat → Fm → VH → Option (Fl × Fm × VH)
  | 0, _, _ => none
  | k + 1, fm, h => bindS (ft fm h) fm fun b h1 => if b = true then (match fb fm h1 with
    | none => none
    | some (.nx, fm2, h2) => whLoop ft fb k fm2 h2
    | some (.ct, fm2, h2) => whLoop ft fb k fm2 h2
    | some (.bk, fm2, h2) => some (.nx, fm2, h2)
    | some (.rt w, fm2, h2) => some (.rt w, fm2, h2)
    | some (.ex c, fm2, h2) => some (.ex c, fm2, h2)) else some (.nx, fm, h1)
@[simp] def fWhile (n : Nat) (ft : FT) (fb : FSt) : FSt := fun fm h => whLoop ft fb n fm h
theorem ss_while (n : Nat) {fb : FSt} (hp : PassesOwn (model X.prog X.w) X.A X.env X.xe) (hc : ST G X Wx c ft) (hb : SSs G X Wx sts fb) : SS G X Wx (.While c sts [] pos) (fWhile n ft fb) := PSw (ps_while hp hc hb) fun D s H q => by
  obtain ⟨fm, h, fl, fm', h', io, e, E, S, p⟩ := q
  refine ⟨fun m sr Hc => ∃ fmc hc ioc, whLoop ft fb m fmc hc = some (fl, fm', h') ∧ Emb G ioc hc Hc ∧ RSt G (adr ioc) Hc fmc sr ∧ Ext io H ioc Hc, ⟨_, fm, h, io, e, E, S, Ext.refl⟩, ?_⟩
  rintro m sr Hc ⟨fmc, hc, ioc, ec, Ec, Sc', xc⟩
  cases m with
  | zero => simp [whLoop] at ec
  | succ k =>
    unfold whLoop at ec
    refine cS_step Ec Sc' ec (p.ext xc) fun b h1 e1 io1 H1 v x1 E1 rv => ?_
    cases (show b = v from rv)
    split at e1
    · rename_i hb1
      rw [if_pos hb1]
      refine ⟨_, fun sr' H' z => ⟨k, Nat.lt_succ_self k, z⟩, ?_⟩
      split at e1
      · cases e1
      · rename_i fm2 h2 e2
        exact cS_last E1 (Sc'.ext x1) e2 fun io2 H2 sr2 x2 E2 S2 => ⟨fm2, h2, io2, e1, E2, S2, (xc.trans x1).trans x2⟩
      · rename_i fm2 h2 e2
        exact cS_last E1 (Sc'.ext x1) e2 fun io2 H2 sr2 x2 E2 S2 => ⟨fm2, h2, io2, e1, E2, S2, (xc.trans x1).trans x2⟩
      · rename_i fm2 h2 e2
        cases e1
        exact cS_last E1 (Sc'.ext x1) e2 fun io2 H2 sr2 x2 E2 S2 => p io2 H2 sr2 ((xc.trans x1).trans x2) E2 S2
      · rename_i w2 fm2 h2 e2
        cases e1
        exact cS_last E1 (Sc'.ext x1) e2 fun io2 H2 sr2 x2 E2 S2 => p io2 H2 sr2 ((xc.trans x1).trans x2) E2 S2
      · rename_i c2 fm2 h2 e2
        cases e1
        exact cS_last E1 (Sc'.ext x1) e2 fun io2 H2 sr2 x2 E2 S2 => p io2 H2 sr2 ((xc.trans x1).trans x2) E2 S2
    · rename_i hb1
      rw [if_neg hb1]
      cases e1
      exact p io1 H1 sr (xc.trans x1) E1 (Sc'.ext x1)
/-! ### raise, try -/
@[simp] def fRaise (c : Nat) : FSt := fun fm h => some (.ex c, fm, h)
theorem ss_raise (c : Nat) {m : Str} {j : Nat} {p p2 pos2 : Pos} (hc : X.calm = true) (tk : L2N.Takes X Wx) (q : PySem.W.excIn X.K (G.C c) [.type "ValueError", .type "Exception", .type "BaseException", .type "object"] "ValueError.__new__" = true) (gC : X.mg x = some (.ref (G.C c))) (kC : PySem.W.keepIn X.K (.ref (G.C c)) = true) (r : Raises X (.ref (G.C c))) (hg : Gl X x)
    (hdb : (x == ("__debug__" : Str)) = false := by decide) : SS G X Wx (.Raise (some (.Call (.Name x p) [.Constant (.str m) j p2] [] pos2)) none pos) (fRaise c) := PSw (L2N.ps_raise hc tk (L2N.pmk_own PySem.F.excBase_ValueError q gC kC r hg hdb)) fun D s H q => by
  obtain ⟨fm, h, fl, fm', h', io, e, E, S, p⟩ := q
  cases e
  exact p io H s Ext.refl E S
@[simp] def fTry (cat : Nat → Option Bool) (fb fs : FSt) : FSt := fun fm h => match fb fm h with
  | some (.ex c, fm1, h1) => (match cat c with
    | some true => (match fs fm1 h1 with
      | some (.ex _, _, _) => none
      | r => r)
    | some false => some (.ex c, fm1, h1)
    | none => none)
  | r => r
theorem ss_try {x : Str} {cv : Value} {body suite : List Stmt} {b0 : Stmt} {np pos pos' : Pos} {fb fsu : FSt} {cat : Nat → Option Bool} (hs : X.stack = X.env :: X.outer) (hf : X.env.frame = some X.env.locals) (hc : Names X x cv) (tk : L2N.Takes X Wx) (hcat : ∀ c b, cat c = some b → PySem.W.exmOne X.K (.ref (G.C c)) cv = some b)
    (hb : ∀ (W' : WX) (pn : List (Addr × Obj)) (xe : Value → Shared → Prop), L2N.Takes (X.tr pn xe) W' → PassesOwn (model X.prog X.w) X.A X.env xe → SSs G (X.tr pn xe) W' body fb)
    (hsu : ∀ (c : Nat) (a : Addr) (oe : Obj) (pn : List (Addr × Obj)), L2N.Zn (.ref (G.C c)) none oe → (∃ vs, oe.data = .fields vs) → SSs G (X.suite a ((a, oe) :: pn)) WF (b0 :: suite) fsu) :
    SS G X Wx (.Try body [.ExceptHandler (some (.Name x np)) none (b0 :: suite) pos'] [] [] pos) (fTry cat fb fsu) :=
  PSw (L2N.ps_try_many (tb := fun W' => cS G W' fb) (l := [(cv, fun a cls d => fun D σ H => ∃ c, cls = .ref (G.C c) ∧ d = none ∧ cS G WF fsu D σ H)]) hs hf tk hb (.cons hc (fun a oe cls d pn hz hd => ⟨fun pins s σ H D I q => by
    obtain ⟨c, rfl, rfl, q⟩ := q
    exact (hsu c a oe pn hz hd).run pins s σ H D I q⟩) .nil)) fun D s H q => by
  obtain ⟨fm, h, fl, fm', h', io, e, E, S, p⟩ := q
  unfold fTry at e
  split at e
  · rename_i c1 fm1 h1 e1
    refine cS_last E S e1 fun io1 H1 sr1 x1 E1 S1 => ?_
    split at e
    · rename_i ec
      refine ⟨true, hcat c1 true ec, fun _ a na => ⟨c1, rfl, rfl, ?_⟩, fun z => absurd z (by decide)⟩
      split at e
      · cases e
      · rename_i hn
        refine ⟨fm1, h1, fl, fm', h', io1, e, E1, S1, fun io2 H2 sr2 x2 E2 S2 => ?_⟩
        have z := p io2 H2 sr2 (x1.trans x2) E2 S2
        cases fl with
        | nx => exact z
        | rt w => exact z
        | bk => exact z
        | ct => exact z
        | ex c => exact (hn _ _ _ e).elim
    · rename_i ec
      cases e
      exact ⟨false, hcat _ false ec, fun z => absurd z (by decide), fun _ => p io1 H1 sr1 x1 E1 S1⟩
    · cases e
  · rename_i hn
    refine cS_last E S e fun io1 H1 sr1 x1 E1 S1 => ?_
    have z := p io1 H1 sr1 x1 E1 S1
    cases fl with
    | nx => exact z
    | rt w => exact z
    | bk => exact z
    | ct => exact z
    | ex c => exact (hn _ _ _ e).elim
end
end Tw

namespace Tw
open PySem PySem.Spec PyProof.Rows L2

/-! ### a def by its body -/
@[simp] def runB (n ar : Nat) (f : FSt) : Fn := fun ws h => if ws.length = ar then (match f (startV n ws) h with
  | some (.nx, _, h1) => some (.ok .non, h1)
  | some (.rt w, _, h1) => some (.ok w, h1)
  | some (.ex c, _, h1) => some (.ex c, h1)
  | _ => none) else none
section
variable {G : Gm} {P : Program} {w : World} {K : PySem.W.Frag} {mg : Str → Option Value} {base : Heap}
theorem okXN {x qual : Str} {st : Stmt} {f : Addr} {fd : FuncData} {N ps : List Str} {k : Nat} {sp : Sp} (F : Fun K x qual st f fd) (S : FnScope N ps (defScope st)) (len : ∀ vs H Q E, sp vs H Q E → vs.length = ps.length)
    (hb : ∀ (cdv : Value) (A : Around) (outer : List Env) (s : Shared) (H : Hp) (vs : List V) (Q : VK) (E : XK), Room k (A.deeper (envOfC qual (defScope st) s.heap.objs.size f cdv)) → sp vs H Q E →
      ∃ t, PSs (cxOf (L2N.CX P w) P w K mg base N qual (defScope st) f cdv A outer s H E) (defBody st) t ∧ t { nx := fun _ H' => Q .non H', rt := Q } (start N vs) H) : FnOk P w K mg base (L2N.CX P w) (k + 1) f fd ps sp := by
  obtain ⟨oc, od, kV, doc, pm, an, cdv, ct, osl, rfl, lk, hcd⟩ := F.ex
  exact fn_of lk hcd S len fun A outer s H vs Q E hr z => hb cdv A outer s H vs Q E hr z
theorem fnV_of {x qual : Str} {st : Stmt} {f : Addr} {fd : FuncData} {N ps : List Str} {k : Nat} {fb : FSt} (np : G.pin = none) (F : Fun K x qual st f fd) (S : FnScope N ps (defScope st))
    (hbody : ∀ (cdv : Value) (A : Around) (outer : List Env) (s : Shared) (H : Hp) (E : XK), Room k (A.deeper (envOfC qual (defScope st) s.heap.objs.size f cdv)) →
      L2N.Takes (cxOf (L2N.CX P w) P w K mg base N qual (defScope st) f cdv A outer s H E) (fun cls d _ H1 => E cls d H1) →
      PassesOwn (model P w) (cxOf (L2N.CX P w) P w K mg base N qual (defScope st) f cdv A outer s H E).A (cxOf (L2N.CX P w) P w K mg base N qual (defScope st) f cdv A outer s H E).env (cxOf (L2N.CX P w) P w K mg base N qual (defScope st) f cdv A outer s H E).xe →
      SSs G (cxOf (L2N.CX P w) P w K mg base N qual (defScope st) f cdv A outer s H E) (fun cls d _ H1 => E cls d H1) (defBody st) fb) :
    FnV G P w K mg base (k + 1) f fd ps (runB N.length ps.length fb) := by
  refine okXN F S (fun vs H Q E h => ?_) (fun cdv A outer s H vs Q E hr h => ?_)
  · obtain ⟨ws, h, r, h', io, e, E, R, p⟩ := h
    unfold runB at e
    split at e
    · rename_i hl
      rw [← R.length]; exact hl
    · cases e
  · refine ⟨_, hbody cdv A outer s H E hr (L2N.takes_of rfl rfl rfl rfl) (passes_of rfl), ?_⟩
    obtain ⟨ws, h, r, h', io, e, E, R, p⟩ := h
    unfold runB at e
    split at e
    · split at e
      · rename_i fm1 h1 e1
        cases e
        exact ⟨_, h, _, _, _, io, e1, E, start_rel np R, fun io' H' sr' x' E' S' => p io' H' x' E' _ .non⟩
      · rename_i w1 fm1 h1 e1
        cases e
        exact ⟨_, h, _, _, _, io, e1, E, start_rel np R, fun io' H' sr' x' E' S' => p io' H' x' E'⟩
      · rename_i c1 fm1 h1 e1
        cases e
        exact ⟨_, h, _, _, _, io, e1, E, start_rel np R, fun io' H' sr' x' E' S' => p io' H' x' E'⟩
      · cases e
    · cases e
/-! ### another function for the same def -/
def RelR (G : Gm) (io io' : List (List Addr)) (H : Hp) : Rs W → Rs W → Prop
  | .ok a, .ok b => ∀ v, RW G.K (adr io) H a v → RW G.K (adr io') H b v
  | .ex c, .ex c' => c = c'
  | _, _ => False
theorem FnV.abs {k : Nat} {f : Addr} {fd : FuncData} {ps : List Str} {F S : Fn} (Fn : FnV G P w K mg base k f fd ps F)
    (hS : ∀ ws h r h', S ws h = some (r, h') → ∀ io H, Emb G io h H → ∃ wc hc rc hc' ioc, F wc hc = some (rc, hc') ∧ Emb G ioc hc H ∧ (∀ vs, RWs G.K (adr io) H ws vs → RWs G.K (adr ioc) H wc vs) ∧
      ∀ ioc' H', Ext ioc H ioc' H' → Emb G ioc' hc' H' → ∃ io', Ext io H io' H' ∧ Emb G io' h' H' ∧ RelR G ioc' io' H' rc r) : FnV G P w K mg base k f fd ps S := by
  refine FnOk.imp Fn fun vs H Q E h => ?_
  obtain ⟨ws, h, r, h', io, e, Em, R, p⟩ := h
  obtain ⟨wc, hc, rc, hc', ioc, e1, E1, R1, k1⟩ := hS ws h r h' e io H Em
  refine ⟨wc, hc, rc, hc', ioc, e1, E1, R1 vs R, fun ioc' H' x' E' => ?_⟩
  obtain ⟨io', x2, E2, rr⟩ := k1 ioc' H' x' E'
  have z := p io' H' x2 E2
  cases rc with
  | ok a =>
    cases r with
    | ok b => exact fun v rv => z v (rr v rv)
    | ex c => exact rr.elim
  | ex c =>
    cases r with
    | ok b => exact rr.elim
    | ex c' =>
      cases (show c = c' from rr)
      exact z
theorem FnV.le {k : Nat} {f : Addr} {fd : FuncData} {ps : List Str} {F S : Fn} (Fn : FnV G P w K mg base k f fd ps F) (hS : ∀ ws h r, S ws h = some r → F ws h = some r) : FnV G P w K mg base k f fd ps S :=
  FnV.abs Fn fun ws h r h' e io H E => ⟨ws, h, r, h', io, hS ws h _ e, E, fun _ z => z, fun ioc' H' x' E' => ⟨ioc', x', E', by cases r with
    | ok a => exact fun v z => z
    | ex c => rfl⟩⟩
end
end Tw
namespace Tw
open PySem PySem.Spec PyProof.Rows L2
theorem bb_len : bootBuiltins "len" = some (.builtin "len") := by decide +kernel
theorem bb_abs : bootBuiltins "abs" = some (.builtin "abs") := by decide +kernel
theorem bb_sum : bootBuiltins "sum" = some (.builtin "sum") := by decide +kernel
theorem bb_max : bootBuiltins "max" = some (.builtin "max") := by decide +kernel
theorem bb_min : bootBuiltins "min" = some (.builtin "min") := by decide +kernel
theorem bb_all : bootBuiltins "all" = some (.builtin "all") := by decide +kernel
theorem bb_any : bootBuiltins "any" = some (.builtin "any") := by decide +kernel
theorem bb_list : bootBuiltins "list" = some (.type "list") := by decide +kernel
theorem bb_int : bootBuiltins "int" = some (.type "int") := by decide +kernel
theorem bb_bool : bootBuiltins "bool" = some (.type "bool") := by decide +kernel
theorem bb_str : bootBuiltins "str" = some (.type "str") := by decide +kernel
theorem bb_tuple : bootBuiltins "tuple" = some (.type "tuple") := by decide +kernel
theorem pgn {X : Cx} (i : Nat) {x : Str} {pos : Pos} (hN : X.N.Nodup) (hi : X.N[i]? = some x := by rfl) (hx : Loc X.env.scope x := by first | exact Or.inl rfl | exact Or.inr rfl) (hf : X.fn x = true ∨ X.env.scope.names.lookup x = some .local := by first | exact .inl rfl | exact .inr rfl | assumption) : PG X (.Name x pos) (gName i) := pg_name hN hi hx hf
@[simp] def fAlt (f g : FE) : FE := fun fm h => match f fm h with
  | some r => some r
  | none => g fm h
theorem se_alt {G : Gm} {X : Cx} {Wx : WX} {e : Expr} {f g : FE} (h1 : SE G X Wx e f) (h2 : SE G X Wx e g) : SE G X Wx e (fAlt f g) := ⟨fun pins s σ H Q I q => by
  obtain ⟨fm, h, r, h', io, e, E, S, p⟩ := q
  unfold fAlt at e
  split at e
  · rename_i e1
    exact h1.run pins s σ H Q I ⟨fm, h, r, h', io, by rw [e1]; exact e, E, S, p⟩
  · exact h2.run pins s σ H Q I ⟨fm, h, r, h', io, e, E, S, p⟩⟩
end Tw

namespace Tw
open PySem PySem.Spec PyProof.Rows L2

/-! ### renaming, and boxes made anew -/
mutual
inductive RnW (t : List Nat) : W → W → Prop
  | non : RnW t .non .non
  | bl (b : Bool) : RnW t (.bl b) (.bl b)
  | int (i : Int) : RnW t (.int i) (.int i)
  | str (x : Str) : RnW t (.str x) (.str x)
  | tup {xs ys : List W} (r : RnWs t xs ys) : RnW t (.tup xs) (.tup ys)
  | rl {xs ys : List W} (r : RnWs t xs ys) : RnW t (.rl xs) (.rl ys)
  | ref {m k : Nat} (h : t[m]? = some k) : RnW t (.ref m) (.ref k)
inductive RnWs (t : List Nat) : List W → List W → Prop
  | nil : RnWs t [] []
  | cons {w v : W} {ws vs : List W} (h : RnW t w v) (r : RnWs t ws vs) : RnWs t (w :: ws) (v :: vs)
end
def RnK (t : List Nat) : List (Int × W) → List (Int × W) → Prop := Paired fun p q => p.1 = q.1 ∧ RnW t p.2 q.2
inductive RnP (t : List Nat) : Po → Po → Prop
  | lst {xs ys : List W} (r : RnWs t xs ys) : RnP t (.lst xs) (.lst ys)
  | dct {xs ys : List (Int × W)} (r : RnK t xs ys) : RnP t (.dct xs) (.dct ys)
  | rcd {d : Nat} {xs ys : List W} (r : RnWs t xs ys) : RnP t (.rcd d xs) (.rcd d ys)
  | ins {c : Nat} {xs ys : List W} (r : RnWs t xs ys) : RnP t (.ins c xs) (.ins c ys)
theorem RnWs.length {t : List Nat} : ∀ {xs ys : List W}, RnWs t xs ys → xs.length = ys.length
  | _, _, .nil => rfl
  | _, _, .cons _ r => by simp [RnWs.length r]
section
variable {K : PySem.W.Frag} {ad ad' : Nat → Option Addr} {H : Hp} {t : List Nat}
mutual
theorem RnW.rel (ha : ∀ m k, t[m]? = some k → ∀ a, ad k = some a → ad' m = some a) : ∀ {w u : W} {v : V}, RnW t w u → RW K ad H u v → RW K ad' H w v
  | _, _, _, .non, .non => .non
  | _, _, _, .bl b, .bl _ => .bl b
  | _, _, _, .int i, .int _ => .int i
  | _, _, _, .str x, .str _ => .str x
  | _, _, _, .tup r, .tup h q => .tup h (RnWs.rel ha r q)
  | _, _, _, .rl r, .rl h q => .rl h (RnWs.rel ha r q)
  | _, _, _, .ref h, .ref q => .ref (ha _ _ h _ q)
theorem RnWs.rel (ha : ∀ m k, t[m]? = some k → ∀ a, ad k = some a → ad' m = some a) : ∀ {w u : List W} {v : List V}, RnWs t w u → RWs K ad H u v → RWs K ad' H w v
  | _, _, _, .nil, .nil => .nil
  | _, _, _, .cons h r, .cons q s => .cons (RnW.rel ha h q) (RnWs.rel ha r s)
end
theorem RnK.rel (ha : ∀ m k, t[m]? = some k → ∀ a, ad k = some a → ad' m = some a) : ∀ {w u : List (Int × W)} {v : List (Key × V)}, RnK t w u → kvR K ad H u v → kvR K ad' H w v
  | _, _, _, .nil, .nil => .nil
  | _, _, _, .cons h r, .cons q s => .cons ⟨by rw [h.1]; exact q.1, RnW.rel ha h.2 q.2⟩ (RnK.rel ha r s)
theorem RnP.rel {G : Gm} {a : Addr} {o o' : Po} (ha : ∀ m k, t[m]? = some k → ∀ a, ad k = some a → ad' m = some a) (r : RnP t o o') (q : ObjR G ad H a o') : ObjR G ad' H a o := by
  cases r with
  | lst r => obtain ⟨vs, e, s⟩ := q; exact ⟨vs, e, r.rel ha s⟩
  | dct r => obtain ⟨vs, e, s⟩ := q; exact ⟨vs, e, RnK.rel ha r s⟩
  | rcd r => obtain ⟨vs, e, s, l, n⟩ := q; exact ⟨vs, e, r.rel ha s, by rw [r.length]; exact l, n⟩
  | ins r => obtain ⟨vs, dx, e, s, l, n⟩ := q; exact ⟨vs, dx, e, r.rel ha s, by rw [r.length]; exact l, n⟩
end
/-! values without addresses -/
mutual
inductive NoR : W → Prop
  | non : NoR .non
  | bl (b : Bool) : NoR (.bl b)
  | int (i : Int) : NoR (.int i)
  | str (x : Str) : NoR (.str x)
  | tup {xs : List W} (r : NoRs xs) : NoR (.tup xs)
  | rl {xs : List W} (r : NoRs xs) : NoR (.rl xs)
inductive NoRs : List W → Prop
  | nil : NoRs []
  | cons {w : W} {ws : List W} (h : NoR w) (r : NoRs ws) : NoRs (w :: ws)
end
section
variable {K : PySem.W.Frag} {ad ad' : Nat → Option Addr} {H : Hp} {t : List Nat}
mutual
theorem NoR.rel : ∀ {w : W} {v : V}, NoR w → RW K ad H w v → RW K ad' H w v
  | _, _, .non, .non => .non
  | _, _, .bl b, .bl _ => .bl b
  | _, _, .int i, .int _ => .int i
  | _, _, .str x, .str _ => .str x
  | _, _, .tup r, .tup h q => .tup h (NoRs.rel r q)
  | _, _, .rl r, .rl h q => .rl h (NoRs.rel r q)
theorem NoRs.rel : ∀ {w : List W} {v : List V}, NoRs w → RWs K ad H w v → RWs K ad' H w v
  | _, _, .nil, .nil => .nil
  | _, _, .cons h r, .cons q s => .cons (NoR.rel h q) (NoRs.rel r s)
end
mutual
theorem NoR.rn : ∀ {w : W}, NoR w → RnW t w w
  | _, .non => .non
  | _, .bl b => .bl b
  | _, .int i => .int i
  | _, .str x => .str x
  | _, .tup r => .tup (NoRs.rn r)
  | _, .rl r => .rl (NoRs.rn r)
theorem NoRs.rn : ∀ {w : List W}, NoRs w → RnWs t w w
  | _, .nil => .nil
  | _, .cons h r => .cons (NoR.rn h) (NoRs.rn r)
end
theorem noRs_ints : ∀ ns : List Int, NoRs (ns.map W.int)
  | [] => .nil
  | n :: ns => .cons (.int n) (noRs_ints ns)
theorem noR_encL : ∀ l : Ltr, NoR (encL l)
  | .ltr m w => .tup (.cons (.str _) (.cons (.int _) (.cons (.int _) .nil)))
  | .ans m => .tup (.cons (.str _) (.cons (.int _) .nil))
theorem noRs_encR : ∀ r : List (Ltr × Int), NoRs (encR r)
  | [] => .nil
  | p :: r => .cons (.tup (.cons (noR_encL _) (.cons (.int _) .nil))) (noRs_encR r)
theorem rnK_encE : ∀ r : List (Int × Int), RnK t (encE r) (encE r)
  | [] => .nil
  | p :: r => .cons ⟨rfl, .int _⟩ (rnK_encE r)
end

/-- the box's objects lie in the heap hc at the places t -/
def Lies (t : List Nat) (os : List Po) (hc : VH) : Prop := t.length = os.length ∧ ∀ (i : Nat) (o : Po), os[i]? = some o → ∃ k o', t[i]? = some k ∧ hc[k]? = some (.pl o') ∧ RnP t o o'
def adrs (io : List (List Addr)) (t : List Nat) : List Addr := t.map fun k => (adr io k).getD 0
section
variable {G : Gm} {io : List (List Addr)} {hc : VH} {H : Hp} {t : List Nat} {os : List Po}
theorem Lies.at_ (L : Lies t os hc) (E : Emb G io hc H) {i k : Nat} (e : t[i]? = some k) : ∃ a o o', os[i]? = some o ∧ hc[k]? = some (.pl o') ∧ RnP t o o' ∧ io[k]? = some [a] ∧ adr io k = some a ∧ (adrs io t)[i]? = some a ∧ ObjR G (adr io) H a o' := by
  have hi : i < os.length := by rw [← L.1]; exact (List.getElem?_eq_some_iff.mp e).1
  obtain ⟨k', o', e1, e2, r⟩ := L.2 i os[i] (List.getElem?_eq_getElem hi)
  rw [e] at e1
  cases e1
  obtain ⟨a, ei, ea, q⟩ := E.pl e2
  refine ⟨a, os[i], o', List.getElem?_eq_getElem hi, e2, r, ei, ea, ?_, q⟩
  unfold adrs
  rw [List.getElem?_map, e]
  show some ((adr io k).getD 0) = some a
  rw [ea]
  rfl
theorem Lies.box (L : Lies t os hc) (E : Emb G io hc H) : BoxR G H (adrs io t) os := by
  refine ⟨by unfold adrs; rw [List.length_map]; exact L.1, fun i o e => ?_⟩
  obtain ⟨k, o', e1, e2, r⟩ := L.2 i o e
  obtain ⟨a, o2, o2', h1, h2, h3, h4, h5, h6, h7⟩ := L.at_ E e1
  rw [e] at h1
  cases h1
  exact ⟨a, h6, h3.rel (fun m k hm b hb => by
    obtain ⟨a', _, _, _, _, _, _, ea, ed, _⟩ := L.at_ E hm
    rw [ea] at hb
    cases hb
    exact ed) h7⟩
theorem Lies.mem (L : Lies t os hc) (E : Emb G io hc H) {a : Addr} (h : a ∈ adrs io t) : ∃ (i k : Nat), t[i]? = some k ∧ io[k]? = some [a] := by
  obtain ⟨i, hi, rfl⟩ := List.getElem_of_mem h
  have hi' : i < t.length := by unfold adrs at hi; simpa using hi
  obtain ⟨a, _, _, _, _, _, h4, _, h6, _⟩ := L.at_ E (List.getElem?_eq_getElem hi')
  rw [List.getElem?_eq_getElem hi] at h6
  cases h6
  exact ⟨i, _, List.getElem?_eq_getElem hi', h4⟩
theorem Lies.nodup (L : Lies t os hc) (E : Emb G io hc H) (nd : t.Nodup) : (adrs io t).Nodup := by
  unfold List.Nodup
  rw [List.pairwise_iff_getElem]
  intro i j hi hj hij
  have hi' : i < t.length := by unfold adrs at hi; simpa using hi
  have hj' : j < t.length := by unfold adrs at hj; simpa using hj
  obtain ⟨a, _, _, _, _, _, h4, _, h6, _⟩ := L.at_ E (List.getElem?_eq_getElem hi')
  obtain ⟨b, _, _, _, _, _, g4, _, g6, _⟩ := L.at_ E (List.getElem?_eq_getElem hj')
  rw [List.getElem?_eq_getElem hi] at h6
  rw [List.getElem?_eq_getElem hj] at g6
  intro z
  rw [z] at h6
  rw [h6] at g6
  cases g6
  have ne : t[i]'hi' ≠ t[j]'hj' := fun q => by
    have := (List.getElem_inj nd).mp q
    omega
  exact nodup_flat_ne E.nd h4 g4 ne List.mem_cons_self List.mem_cons_self
end
/-- the objects of a box -/
def boxOf : Cell → Option (List Po)
  | .pl (.ins c []) => some [.ins c []]
  | .tk T => some (canT T)
  | .hd T => some (canH T)
  | _ => none
theorem boxOf_r {G : Gm} {ad : Nat → Option Addr} {H : Hp} {l : List Addr} {c : Cell} {os : List Po} (r : CellR G ad H l c) (e : boxOf c = some os) : BoxR G H l os := by
  unfold boxOf at e
  split at e
  · cases e
    obtain ⟨a, rfl, vs, dx, hv, rv, hr⟩ := r
    cases rv
    refine ⟨rfl, fun i o ei => ?_⟩
    cases i with
    | zero => cases ei; exact ⟨a, rfl, [], dx, hv, .nil, hr⟩
    | succ i => simp at ei
  · cases e; exact r
  · cases e; exact r
  · cases e
theorem flat_single : ∀ l : List Addr, (l.map fun a => [a]).flatten = l
  | [] => rfl
  | a :: l => by rw [List.map_cons, List.flatten_cons, flat_single l]; rfl
theorem adr_single (l : List Addr) (m : Nat) : adr (l.map fun a => [a]) m = l[m]? := by
  unfold adr
  rw [List.getElem?_map]
  cases l[m]? <;> rfl
theorem BoxR.emb {G : Gm} {H : Hp} {l : List Addr} {os : List Po} (r : BoxR G H l os) (nd : l.Nodup) : Emb G (l.map fun a => [a]) (os.map Cell.pl) H := by
  refine ⟨by rw [List.length_map, List.length_map]; exact r.1, by rw [flat_single]; exact nd, fun n c e => ?_⟩
  rw [List.getElem?_map] at e
  cases q : os[n]? with
  | none => rw [q] at e; cases e
  | some o =>
    rw [q] at e
    cases e
    obtain ⟨a, ha, ra⟩ := r.2 n o q
    refine ⟨[a], by rw [List.getElem?_map, ha]; rfl, a, rfl, ?_⟩
    rw [show adr (l.map fun a => [a]) = fun m => l[m]? from funext (adr_single l)]
    exact ra
theorem sub_nodup : ∀ {io : List (List Addr)} {n : Nat} {l : List Addr}, io.flatten.Nodup → io[n]? = some l → l.Nodup
  | [], _, _, _, e => by simp at e
  | x :: r, 0, l, nd, e => by
    rw [List.flatten_cons, List.nodup_append] at nd
    simp at e; subst e
    exact nd.1
  | x :: r, n + 1, l, nd, e => by
    rw [List.flatten_cons, List.nodup_append] at nd
    exact sub_nodup nd.2.1 (by simpa using e)
theorem mem_set_flat {io : List (List Addr)} {n : Nat} {l : List Addr} {a : Addr} (h : a ∈ (io.set n l).flatten) : a ∈ l ∨ ∃ m l', m ≠ n ∧ io[m]? = some l' ∧ a ∈ l' := by
  obtain ⟨x, hx, ha⟩ := List.mem_flatten.mp h
  obtain ⟨m, hm, rfl⟩ := List.getElem_of_mem hx
  have hm' : m < io.length := by simpa using hm
  by_cases q : n = m
  · subst q
    rw [List.getElem_set_self] at ha
    exact .inl ha
  · rw [List.getElem_set_ne q] at ha
    exact .inr ⟨m, io[m], Ne.symm q, List.getElem?_eq_getElem hm', ha⟩
theorem nodup_set : ∀ {io : List (List Addr)} {n : Nat} {l : List Addr}, io.flatten.Nodup → l.Nodup → (∀ m l', m ≠ n → io[m]? = some l' → ∀ a ∈ l, a ∉ l') → (io.set n l).flatten.Nodup
  | [], _, _, _, _, _ => by simp
  | x :: r, 0, l, nd, nl, h => by
    rw [List.flatten_cons, List.nodup_append] at nd
    rw [List.set_cons_zero, List.flatten_cons, List.nodup_append]
    refine ⟨nl, nd.2.1, fun a ha b hb z => ?_⟩
    subst z
    obtain ⟨y, hy, hay⟩ := List.mem_flatten.mp hb
    obtain ⟨m, hm, rfl⟩ := List.getElem_of_mem hy
    exact h (m + 1) _ (by omega) (by simp [hm]) a ha hay
  | x :: r, n + 1, l, nd, nl, h => by
    rw [List.flatten_cons, List.nodup_append] at nd
    rw [List.set_cons_succ, List.flatten_cons, List.nodup_append]
    refine ⟨nd.1, nodup_set nd.2.1 nl fun m l' hm e => h (m + 1) l' (by omega) (by simpa using e), fun a ha b hb z => ?_⟩
    subst z
    rcases mem_set_flat hb with q | ⟨m, l', hm, e, q⟩
    · exact h 0 x (by omega) rfl a q ha
    · exact nd.2.2 a ha a (mem_flat e q) rfl
end Tw

namespace Tw
open PySem PySem.Spec PyProof.Rows L2

inductive BoxEnd (n : Nat) (hc : VH) (t : List Nat) : Rs W → Rs W → VH → Prop
  | ex (c : Nat) : BoxEnd n hc t (.ex c) (.ex c) []
  | val {w : W} (h : NoR w) : BoxEnd n hc t (.ok w) (.ok w) []
  | lst {m : Nat} {xs : List W} (h : hc[m]? = some (.pl (.lst xs))) (r : NoRs xs) (nt : m ∉ t) : BoxEnd n hc t (.ok (.ref m)) (.ok (.ref n)) [.pl (.lst xs)]
def IsBox (c : Cell) (os : List Po) : Prop := ∀ (G : Gm) (ad : Nat → Option Addr) (H : Hp) (l : List Addr), BoxR G H l os → CellR G ad H l c
theorem isBox_tk (T : Tk) : IsBox (.tk T) (canT T) := fun _ _ _ _ z => z
theorem isBox_hd (T : Tk) : IsBox (.hd T) (canH T) := fun _ _ _ _ z => z
section
variable {G : Gm} {P : Program} {w : World} {K : PySem.W.Frag} {mg : Str → Option Value} {base : Heap}
/-- the heart: a box in the heap h is changed by a run over its own objects -/
theorem box_back {io ioc' : List (List Addr)} {h hc' : VH} {H H' : Hp} {n : Nat} {l : List Addr} {c c' : Cell} {os os' : List Po} {t : List Nat} (E : Emb G io h H) (hn : h[n]? = some c) (el : io[n]? = some l) (hb : BoxR G H l os)
    (x' : Ext (l.map fun a => [a]) H ioc' H') (E' : Emb G ioc' hc' H') (ib : IsBox c' os') (L : Lies t os' hc') (nd : t.Nodup) (t0 : t[0]? = some 0) :
    Ext io H (io.set n (adrs ioc' t)) H' ∧ Emb G (io.set n (adrs ioc' t)) (h.set n c') H' ∧ (∀ a ∈ adrs ioc' t, ∀ m l', m ≠ n → io[m]? = some l' → a ∉ l') := by
  have hlen : n < io.length := (List.getElem?_eq_some_iff.mp el).1
  have own : ∀ a, a ∈ ioc'.flatten → a ∈ l ∨ H a = none := fun a ha => by
    rcases x'.own a ha with z | z
    · rw [flat_single] at z; exact .inl z
    · exact .inr z
  have keep : ∀ a o, H a = some o → a ∉ l → H' a = some o := fun a o e na => x'.keep a o e (by rw [flat_single]; exact na)
  have mem' : ∀ a, a ∈ adrs ioc' t → a ∈ l ∨ H a = none := fun a ha => by
    obtain ⟨i, k, _, ek⟩ := L.mem E' ha
    exact own a (mem_flat ek List.mem_cons_self)
  have dis : ∀ a ∈ adrs ioc' t, ∀ m l', m ≠ n → io[m]? = some l' → a ∉ l' := fun a ha m l' hm em hal => by
    rcases mem' a ha with z | z
    · exact nodup_flat_ne E.nd em el hm hal z
    · exact E.fresh z (mem_flat em hal)
  have root : ∀ m a, adr io m = some a → adr (io.set n (adrs ioc' t)) m = some a := fun m a e => by
    by_cases q : m = n
    · subst q
      unfold adr at e ⊢
      rw [el] at e
      rw [List.getElem?_set_self hlen]
      have e0 : l[0]? = some a := by
        have : l.head? = some a := e
        rw [← this, List.head?_eq_getElem?]
      have r0 := x'.root 0 a (by rw [adr_single]; exact e0)
      obtain ⟨b, _, _, _, _, _, _, eb, ed, _⟩ := L.at_ E' t0
      rw [r0] at eb
      cases eb
      show (adrs ioc' t).head? = some a
      rw [List.head?_eq_getElem?]
      exact ed
    · unfold adr at e ⊢
      rw [List.getElem?_set_ne (Ne.symm q)]
      exact e
  refine ⟨⟨root, fun a ha => ?_, fun a o e na => keep a o e fun z => na (mem_flat el z), x'.trk, x'.tup⟩, ⟨by rw [List.length_set, List.length_set]; exact E.len, nodup_set E.nd (L.nodup E' nd) fun m l' hm em a ha => dis a ha m l' hm em, fun m cc em => ?_⟩, dis⟩
  · rcases mem_set_flat ha with z | ⟨m, l', hm, em, z⟩
    · rcases mem' a z with q | q
      · exact .inl (mem_flat el q)
      · exact .inr q
    · exact .inl (mem_flat em z)
  · by_cases q : m = n
    · subst q
      have hl : m < h.length := (List.getElem?_eq_some_iff.mp hn).1
      rw [List.getElem?_set_self hl] at em
      cases em
      exact ⟨adrs ioc' t, List.getElem?_set_self hlen, ib _ _ _ _ (L.box E')⟩
    · rw [List.getElem?_set_ne (Ne.symm q)] at em
      obtain ⟨lm, elm, r⟩ := E.at_ m cc em
      exact ⟨lm, by rw [List.getElem?_set_ne (Ne.symm q)]; exact elm, r.mono root x'.tup fun a ha u z => keep a u z fun y => nodup_flat_ne E.nd elm el q ha y⟩
theorem FnV.box {k : Nat} {f : Addr} {fd : FuncData} {ps : List Str} {F S : Fn} (Fn : FnV G P w K mg base k f fd ps F)
    (hS : ∀ ws h r h', S ws h = some (r, h') → ∃ n c c' rest os os' rc hc' t xl, ws = .ref n :: rest ∧ NoRs rest ∧ h[n]? = some c ∧ boxOf c = some os ∧ F (.ref 0 :: rest) (os.map Cell.pl) = some (rc, hc') ∧
      IsBox c' os' ∧ Lies t os' hc' ∧ t.Nodup ∧ t[0]? = some 0 ∧ BoxEnd h.length hc' t rc r xl ∧ h' = h.set n c' ++ xl) : FnV G P w K mg base k f fd ps S := by
  refine FnV.abs Fn fun ws h r h' e io H E => ?_
  obtain ⟨n, c, c', rest, os, os', rc, hc', t, xl, rfl, nr, hn, hb, eF, ib, L, nd, t0, be, rfl⟩ := hS ws h r h' e
  obtain ⟨l, el, rc0⟩ := E.at_ n c hn
  have hbx := boxOf_r rc0 hb
  have hl0 : l.Nodup := sub_nodup E.nd el
  refine ⟨_, _, rc, hc', l.map fun a => [a], eF, hbx.emb hl0, fun vs r => ?_, fun ioc' H' x' E' => ?_⟩
  · cases r with
    | cons r1 r2 =>
      refine .cons ?_ (nr.rel r2)
      cases r1 with
      | ref z =>
        refine .ref ?_
        rw [adr_single, ← List.head?_eq_getElem?]
        unfold adr at z
        rw [el] at z
        exact z
  · obtain ⟨x2, E2, dis⟩ := box_back E hn el hbx x' E' ib L nd t0
    cases be with
    | ex c =>
      rw [List.append_nil]
      exact ⟨_, x2, E2, rfl⟩
    | val hw =>
      rw [List.append_nil]
      exact ⟨_, x2, E2, fun v rv => hw.rel rv⟩
    | @lst m xs hm rx nt =>
      obtain ⟨b, eb1, eb2, vs, hv, rvs⟩ := E'.pl hm
      have nb : b ∉ (io.set n (adrs ioc' t)).flatten := fun z => by
        rcases mem_set_flat z with y | ⟨m', l', hm', em', y⟩
        · obtain ⟨i, k', ek1, ek2⟩ := L.mem E' y
          have ne : m ≠ k' := fun q => nt (by subst q; exact List.mem_of_getElem? ek1)
          exact nodup_flat_ne E'.nd eb1 ek2 ne List.mem_cons_self List.mem_cons_self
        · rcases x'.own b (mem_flat eb1 List.mem_cons_self) with q | q
          · rw [flat_single] at q
            exact nodup_flat_ne E.nd em' el hm' y q
          · exact E.fresh q (mem_flat em' y)
      have nH : b ∈ l ∨ H b = none := by
        rcases x'.own b (mem_flat eb1 List.mem_cons_self) with q | q
        · rw [flat_single] at q; exact .inl q
        · exact .inr q
      refine ⟨io.set n (adrs ioc' t) ++ [[b]], ⟨fun i a z => adr_app (x2.root i a z), fun a ha => ?_, x2.keep, x2.trk, x2.tup⟩, ⟨by simp [E.len], ?_, fun i cc ei => ?_⟩, fun v rv => ?_⟩
      · rw [List.flatten_append, List.mem_append] at ha
        rcases ha with z | z
        · exact x2.own a z
        · simp at z
          subst z
          rcases nH with q | q
          · exact .inl (mem_flat el q)
          · exact .inr q
      · rw [List.flatten_append, List.nodup_append]
        refine ⟨E2.nd, by simp, fun a ha b' hb' z => ?_⟩
        simp at hb'
        subst hb'
        subst z
        exact nb ha
      · by_cases q : i < (h.set n c').length
        · rw [List.getElem?_append_left q] at ei
          obtain ⟨li, eli, ri⟩ := E2.at_ i cc ei
          refine ⟨li, ?_, ri.mono (fun _ _ z => adr_app z) (fun _ _ z _ => z) fun _ _ _ z => z⟩
          rw [List.getElem?_append_left (by rw [E2.len]; exact q)]
          exact eli
        · have hi : i = (h.set n c').length := by
            have := (List.getElem?_eq_some_iff.mp ei).1
            simp at this q ⊢
            omega
          subst hi
          rw [List.getElem?_append_right (Nat.le_refl _)] at ei
          simp at ei
          subst ei
          refine ⟨[b], ?_, b, rfl, vs, hv, rx.rel rvs⟩
          rw [← E2.len, List.getElem?_append_right (Nat.le_refl _)]
          simp
      · cases rv with
        | ref z =>
          rw [eb2] at z
          cases z
          refine .ref ?_
          have : h.length = (io.set n (adrs ioc' t)).length := by rw [E2.len, List.length_set]
          rw [this]
          exact adr_new
end
end Tw

/-! what a talk does, as plain functions -/
namespace Tw
open PySem L2
def fuelW : Nat := 1000000
theorem sz {n : Nat} (h : n ≤ 1000000) : n ≤ sizeLine := Nat.le_trans h (by decide)
theorem sz' {n : Nat} (h : n < 1000000) : n < sizeLine := Nat.lt_of_lt_of_le h (by decide)
abbrev okP (p : Int) : Prop := p = 0 ∨ p = 1
def Tk.rd (T : Tk) (p : Int) : List (Ltr × Int) := if p = 0 then T.r0 else T.r1
def Tk.up (T : Tk) (p : Int) : Bool := if p = 0 then T.u0 else T.u1
def Tk.sRd (T : Tk) (p : Int) (r : List (Ltr × Int)) : Tk := if p = 0 then { T with r0 := r } else { T with r1 := r }
def Tk.sUp (T : Tk) (p : Int) (b : Bool) : Tk := if p = 0 then { T with u0 := b } else { T with u1 := b }
abbrev Tk.waits (T : Tk) : Prop := T.window ≤ T.said.length - T.known ∨ T.last = T.now ∨ (60 : Int) ≤ T.said.length
def Tk.say (T : Tk) (w : Int) : Rs W × Tk := if 0 ≤ w ∧ w ≤ 99 then (if T.waits then (.ex 19, T) else (.ok (.int T.said.length), { T with said := T.said ++ [w], last := T.now })) else (.ex 14, T)
def Tk.put (T : Tk) (p : Int) (l : Ltr) : Tk := T.sRd p (T.rd p ++ [(l, T.now)])
def Tk.saidAt (T : Tk) (n : Int) : Int := T.said[n.toNat]?.getD 0
abbrev Tk.ltrOf (T : Tk) (n : Int) : Ltr := .ltr (n % T.marks) (T.saidAt n)
abbrev Tk.ansOf (T : Tk) : Ltr := .ans (T.heard.length % T.marks)
def Tk.post (T : Tk) (p n : Int) : Rs W × Tk := if okP p then (if T.known ≤ n ∧ n < T.said.length then (if T.up p = true then (.ok (.int (T.rd p).length), T.put p (T.ltrOf n)) else (.ex 20, T)) else (.ex 16, T)) else (.ex 15, T)
def Tk.answer (T : Tk) (p : Int) : Rs W × Tk := if okP p then (if T.up p = true then (.ok (.int (T.rd p).length), T.put p T.ansOf) else (.ex 20, T)) else (.ex 15, T)
def Tk.atP (T : Tk) (p i : Int) : Option Ltr := if 0 ≤ i then (T.rd p)[i.toNat]?.map (·.1) else none
def Tk.off (T : Tk) (p i : Int) : Tk := T.sRd p ((T.rd p).eraseIdx i.toNat)
def dgetI (k : Int) : List (Int × Int) → Option Int
  | [] => none
  | p :: r => if p.1 = k then some p.2 else dgetI k r
def ddropI (k : Int) : List (Int × Int) → List (Int × Int)
  | [] => []
  | p :: r => if p.1 = k then ddropI k r else p :: ddropI k r
theorem ddropI_le (k : Int) : ∀ l : List (Int × Int), (ddropI k l).length ≤ l.length
  | [] => Nat.le_refl _
  | p :: r => by
    unfold ddropI
    have := ddropI_le k r
    split <;> simp only [List.length_cons] <;> omega
theorem ddropI_len {k w : Int} : ∀ {l : List (Int × Int)}, dgetI k l = some w → (ddropI k l).length + 1 ≤ l.length
  | [], e => by cases e
  | p :: r, e => by
    unfold dgetI at e
    unfold ddropI
    split at e
    · rename_i h; rw [if_pos h]; exact Nat.succ_le_succ (ddropI_le k r)
    · rename_i h; rw [if_neg h, List.length_cons, List.length_cons]; exact Nat.succ_le_succ (ddropI_len e)
def drain : Nat → List Int → List (Int × Int) → List Int × List (Int × Int)
  | 0, h, e => (h, e)
  | k + 1, h, e => match dgetI h.length e with
    | some w => drain k (h ++ [w]) (ddropI h.length e)
    | none => (h, e)
def Tk.arrive (T : Tk) : Ltr → Bool × Tk
  | .ans m => if (m - T.known) % T.marks ≤ T.said.length - T.known then (true, { T with known := T.known + (m - T.known) % T.marks }) else (false, T)
  | .ltr m w => if T.window ≤ (m - T.heard.length) % T.marks then (false, T) else if (dgetI (T.heard.length + (m - T.heard.length) % T.marks) T.early).isSome = true then (false, T) else
      (true, { T with heard := (drain (T.early.length + 1) T.heard (T.early ++ [(T.heard.length + (m - T.heard.length) % T.marks, w)])).1, early := (drain (T.early.length + 1) T.heard (T.early ++ [(T.heard.length + (m - T.heard.length) % T.marks, w)])).2 })
def Tk.bring (T : Tk) (p i : Int) : Rs W × Tk := if okP p then (match T.atP p i with
    | some l => (.ok (.bl ((T.off p i).arrive l).1), ((T.off p i).arrive l).2)
    | none => (.ex 17, T)) else (.ex 15, T)
def Tk.lose (T : Tk) (p i : Int) : Rs W × Tk := if okP p then (match T.atP p i with
    | some l => (.ok (.int ((T.off p i).rd p).length), T.off p i)
    | none => (.ex 17, T)) else (.ex 15, T)
def Tk.fall (T : Tk) (p : Int) : Rs W × Tk := if okP p then (if T.up p = true then (.ok (.int (T.rd p).length), (T.sUp p false).sRd p []) else (.ex 20, T)) else (.ex 15, T)
def Tk.rise (T : Tk) (p : Int) : Rs W × Tk := if okP p then (if T.up p = true then (.ex 20, T) else (.ok .non, T.sUp p true)) else (.ex 15, T)
def Tk.old (T : Tk) (r : List (Ltr × Int)) : List (Ltr × Int) := r.filter fun x => decide (T.now + 1 - x.2 < T.life)
def Tk.tick (T : Tk) : Rs W × Tk := (.ok (.int (0 + T.r0.length - (T.old T.r0).length + T.r1.length - (T.old T.r1).length)), { T with now := T.now + 1, r0 := T.old T.r0, r1 := T.old T.r1 })
def Tk.left (T : Tk) : List Int := (List.range (T.said.length - T.known).toNat).map fun i : Nat => T.known + i
def Tk.hear (T : Tk) (n : Int) : Tk := (T.arrive (T.ltrOf n)).2
def Tk.caught (T : Tk) : Tk := let T1 := T.left.foldl Tk.hear T; (T1.arrive T1.ansOf).2
def Tk.catchUp (T : Tk) (p : Int) : Rs W × Tk := if okP p then (if T.up p = true then (.ok (.int T.left.length), T.caught) else (.ex 20, T)) else (.ex 15, T)
/-- sizes, and what always holds -/
structure Tk.Good (T : Tk) (N : Nat) : Prop where
  marks : 0 < T.marks
  known : 0 ≤ T.known
  said : T.said.length ≤ 60
  ks : T.known ≤ T.said.length
  hear : T.heard.length + T.early.length ≤ N
  r0 : T.r0.length ≤ N
  r1 : T.r1.length ≤ N
  ear : dgetI T.heard.length T.early = none
theorem Tk.Good.mono {T : Tk} {N M : Nat} (g : T.Good N) (h : N ≤ M) : T.Good M := ⟨g.marks, g.known, g.said, g.ks, Nat.le_trans g.hear h, Nat.le_trans g.r0 h, Nat.le_trans g.r1 h, g.ear⟩
theorem drain_sum : ∀ (k : Nat) (h : List Int) (e : List (Int × Int)), (drain k h e).1.length + (drain k h e).2.length ≤ h.length + e.length
  | 0, h, e => Nat.le_refl _
  | k + 1, h, e => by
    unfold drain
    split
    · rename_i w q
      have h1 := drain_sum k (h ++ [w]) (ddropI h.length e)
      rw [List.length_append, List.length_singleton] at h1
      have := ddropI_len q
      omega
    · exact Nat.le_refl _
theorem drain_end : ∀ (k : Nat) (h : List Int) (e : List (Int × Int)), e.length ≤ k → dgetI (drain k h e).1.length (drain k h e).2 = none
  | 0, h, e, l => by
    have : e = [] := List.length_eq_zero_iff.mp (by omega)
    subst this; rfl
  | k + 1, h, e, l => by
    unfold drain
    split
    · rename_i w q
      have := ddropI_len q
      exact drain_end k _ _ (by omega)
    · assumption
theorem drain_more : ∀ (k j : Nat) (h : List Int) (e : List (Int × Int)), e.length ≤ k → k ≤ j → drain j h e = drain k h e
  | 0, j, h, e, l, _ => by
    have : e = [] := List.length_eq_zero_iff.mp (by omega)
    subst this
    cases j <;> rfl
  | k + 1, 0, h, e, l, q => by omega
  | k + 1, j + 1, h, e, l, q => by
    unfold drain
    split
    · rename_i w q
      have := ddropI_len q
      exact drain_more k j _ _ (by omega) (by omega)
    · rfl
theorem Tk.Good.arrive {T : Tk} {N : Nat} (g : T.Good N) (l : Ltr) : (T.arrive l).2.Good (N + 1) := by
  cases l with
  | ans m =>
    unfold Tk.arrive
    simp only
    split
    · rename_i h
      have h0 := Int.emod_nonneg (m - T.known) (Int.ne_of_gt g.marks)
      exact ⟨g.marks, by have := g.known; show 0 ≤ T.known + _; omega, g.said, by show T.known + (m - T.known) % T.marks ≤ (T.said.length : Int); omega, Nat.le_succ_of_le g.hear, Nat.le_succ_of_le g.r0, Nat.le_succ_of_le g.r1, g.ear⟩
    · exact g.mono (Nat.le_succ _)
  | ltr m w =>
    unfold Tk.arrive
    simp only
    split
    · exact g.mono (Nat.le_succ _)
    split
    · exact g.mono (Nat.le_succ _)
    refine ⟨g.marks, g.known, g.said, g.ks, ?_, Nat.le_succ_of_le g.r0, Nat.le_succ_of_le g.r1, ?_⟩
    · show (drain _ _ _).1.length + (drain _ _ _).2.length ≤ _
      have h1 := drain_sum (T.early.length + 1) T.heard (T.early ++ [(T.heard.length + (m - T.heard.length) % T.marks, w)])
      rw [List.length_append, List.length_singleton] at h1
      have := g.hear
      omega
    · exact drain_end _ _ _ (by rw [List.length_append, List.length_singleton]; exact Nat.le_refl _)
theorem Tk.Good.off {T : Tk} {N : Nat} (g : T.Good N) (p i : Int) : (T.off p i).Good N := by
  unfold Tk.off Tk.sRd Tk.rd
  split
  · exact ⟨g.marks, g.known, g.said, g.ks, g.hear, Nat.le_trans (List.length_eraseIdx_le ..) g.r0, g.r1, g.ear⟩
  · exact ⟨g.marks, g.known, g.said, g.ks, g.hear, g.r0, Nat.le_trans (List.length_eraseIdx_le ..) g.r1, g.ear⟩
theorem Tk.Good.put {T : Tk} {N : Nat} (g : T.Good N) (p : Int) (l : Ltr) : (T.put p l).Good (N + 1) := by
  have h0 := g.r0
  have h1 := g.r1
  unfold Tk.put Tk.sRd Tk.rd
  split
  · exact ⟨g.marks, g.known, g.said, g.ks, Nat.le_succ_of_le g.hear, by show (T.r0 ++ [_]).length ≤ _; simp; omega, Nat.le_succ_of_le g.r1, g.ear⟩
  · exact ⟨g.marks, g.known, g.said, g.ks, Nat.le_succ_of_le g.hear, Nat.le_succ_of_le g.r0, by show (T.r1 ++ [_]).length ≤ _; simp; omega, g.ear⟩
/-- what is put on comes off again -/
theorem Tk.put_at (T : Tk) (p : Int) (l : Ltr) : (T.put p l).atP p (T.rd p).length = some l := by
  unfold Tk.atP Tk.put
  rw [if_pos (by omega)]
  unfold Tk.sRd Tk.rd
  split <;> simp_all
theorem Tk.put_off (T : Tk) (p : Int) (l : Ltr) : (T.put p l).off p (T.rd p).length = T := by
  unfold Tk.off Tk.put Tk.sRd Tk.rd
  split
  · simp_all [List.eraseIdx_append_of_length_le]
  · simp_all [List.eraseIdx_append_of_length_le]
theorem Tk.arr_said (T : Tk) (l : Ltr) : (T.arrive l).2.said = T.said ∧ (T.arrive l).2.marks = T.marks ∧ (T.arrive l).2.window = T.window ∧ (T.arrive l).2.life = T.life ∧ (T.arrive l).2.r0 = T.r0 ∧ (T.arrive l).2.r1 = T.r1 ∧ (T.arrive l).2.u0 = T.u0 ∧ (T.arrive l).2.u1 = T.u1 := by
  cases l with
  | ans m => unfold Tk.arrive; simp only; split <;> simp
  | ltr m w =>
    unfold Tk.arrive
    simp only
    split
    · simp
    · split <;> simp
theorem Tk.ltr_known (T : Tk) (m w : Int) : (T.arrive (.ltr m w)).2.known = T.known := by
  unfold Tk.arrive
  simp only
  split
  · simp
  · split <;> simp
end Tw

/-! summaries over boxes -/
namespace Tw
open PySem PySem.Spec PyProof.Rows L2
abbrev Lim : Nat := 500000
structure BK where
  bx : Tk → Cell
  can : Tk → List Po
  un : Cell → Option Tk
  h1 : ∀ c T, un c = some T → c = bx T
  h2 : ∀ T, boxOf (bx T) = some (can T)
  h3 : ∀ T, IsBox (bx T) (can T)
@[simp] def unT : Cell → Option Tk
  | .tk T => some T
  | _ => none
@[simp] def unH : Cell → Option Tk
  | .hd T => some T
  | _ => none
def bkT : BK := ⟨.tk, canT, unT, fun c T e => by cases c <;> simp at e; rw [e], fun _ => rfl, isBox_tk⟩
def bkH : BK := ⟨.hd, canH, unH, fun c T e => by cases c <;> simp at e; rw [e], fun _ => rfl, isBox_hd⟩
abbrev Mth := Tk → List W → Option (Rs W × Tk)
instance goodDec (T : Tk) (N : Nat) : Decidable (T.Good N) := decidable_of_iff (0 < T.marks ∧ 0 ≤ T.known ∧ T.said.length ≤ 60 ∧ T.known ≤ T.said.length ∧ T.heard.length + T.early.length ≤ N ∧ T.r0.length ≤ N ∧ T.r1.length ≤ N ∧ (dgetI T.heard.length T.early).isNone = true)
  ⟨fun ⟨a, b, c, d, e, f, g, h⟩ => ⟨a, b, c, d, e, f, g, Option.isNone_iff_eq_none.mp h⟩, fun ⟨a, b, c, d, e, f, g, h⟩ => ⟨a, b, c, d, e, f, g, Option.isNone_iff_eq_none.mpr h⟩⟩
def onV (k : BK) (m : Mth) : Fn := fun ws h => match ws with
  | .ref n :: rest => (match (h[n]?).bind k.un with
    | some T => if T.Good Lim then (match m T rest with
      | some (r, T') => some (r, h.set n (k.bx T'))
      | none => none) else none
    | none => none)
  | _ => none
def onL (k : BK) (m : Tk → List W → Option (List W)) : Fn := fun ws h => match ws with
  | .ref n :: rest => (match (h[n]?).bind k.un with
    | some T => if T.Good Lim then (match m T rest with
      | some xs => some (.ok (.ref h.length), h ++ [.pl (.lst xs)])
      | none => none) else none
    | none => none)
  | _ => none
def ResOk : Rs W → Prop
  | .ex _ => True
  | .ok w => NoR w
theorem onV_eq {k : BK} {m : Mth} {n : Nat} {rest : List W} {h : VH} {T T' : Tk} {r : Rs W} (e : h[n]? = some (k.bx T)) (u : k.un (k.bx T) = some T) (g : T.Good Lim) (em : m T rest = some (r, T')) : onV k m (.ref n :: rest) h = some (r, h.set n (k.bx T')) := by
  simp [onV, e, u, g, em]
theorem onL_eq {k : BK} {m : Tk → List W → Option (List W)} {n : Nat} {rest : List W} {h : VH} {T : Tk} {xs : List W} (e : h[n]? = some (k.bx T)) (u : k.un (k.bx T) = some T) (g : T.Good Lim) (em : m T rest = some xs) : onL k m (.ref n :: rest) h = some (.ok (.ref h.length), h ++ [.pl (.lst xs)]) := by
  simp [onL, e, u, g, em]
section
variable {G : Gm} {P : Program} {w : World} {K : PySem.W.Frag} {mg : Str → Option Value} {base : Heap} {kk : Nat} {f : Addr} {fd : FuncData} {ps : List Str} {B : Fn}
theorem okV {k : BK} {m : Mth} (okB : FnV G P w K mg base kk f fd ps B)
    (hm : ∀ T rest r T', T.Good Lim → m T rest = some (r, T') → NoRs rest ∧ ResOk r ∧ ∃ hc' t, B (.ref 0 :: rest) ((k.can T).map Cell.pl) = some (r, hc') ∧ Lies t (k.can T') hc' ∧ t.Nodup ∧ t[0]? = some 0) : FnV G P w K mg base kk f fd ps (onV k m) := by
  refine FnV.box okB fun ws h r h' e => ?_
  unfold onV at e
  split at e
  · rename_i n rest
    split at e
    · rename_i T eT
      obtain ⟨c, e1, e2⟩ := Option.bind_eq_some_iff.mp eT
      have hc := k.h1 c T e2
      subst hc
      split at e
      · rename_i g
        split at e
        · rename_i r' T' em
          cases e
          obtain ⟨n1, n2, hc', t, b1, b2, b3, b4⟩ := hm T rest r T' g em
          refine ⟨n, _, k.bx T', rest, k.can T, k.can T', r, hc', t, [], rfl, n1, e1, k.h2 T, b1, k.h3 T', b2, b3, b4, ?_, (List.append_nil _).symm⟩
          cases r with
          | ex c => exact .ex c
          | ok w => exact .val n2
        · cases e
      · cases e
    · cases e
  · cases e
theorem set_same {A : Type} {h : List A} {n : Nat} {c : A} (e : h[n]? = some c) : h.set n c = h := by
  obtain ⟨h1, h2⟩ := List.getElem?_eq_some_iff.mp e
  subst h2
  exact List.set_getElem_self h1
theorem okL {k : BK} {m : Tk → List W → Option (List W)} (okB : FnV G P w K mg base kk f fd ps B)
    (hm : ∀ T rest xs, T.Good Lim → m T rest = some xs → NoRs rest ∧ NoRs xs ∧ ∃ hc' t j, B (.ref 0 :: rest) ((k.can T).map Cell.pl) = some (.ok (.ref j), hc') ∧ hc'[j]? = some (.pl (.lst xs)) ∧ j ∉ t ∧ Lies t (k.can T) hc' ∧ t.Nodup ∧ t[0]? = some 0) : FnV G P w K mg base kk f fd ps (onL k m) := by
  refine FnV.box okB fun ws h r h' e => ?_
  unfold onL at e
  split at e
  · rename_i n rest
    split at e
    · rename_i T eT
      obtain ⟨c, e1, e2⟩ := Option.bind_eq_some_iff.mp eT
      have hc := k.h1 c T e2
      subst hc
      split at e
      · rename_i g
        split at e
        · rename_i xs em
          cases e
          obtain ⟨n1, n2, hc', t, j, b1, bj, nj, b2, b3, b4⟩ := hm T rest xs g em
          exact ⟨n, _, k.bx T, rest, k.can T, k.can T, _, hc', t, _, rfl, n1, e1, k.h2 T, b1, k.h3 T, b2, b3, b4, .lst bj n2 nj, by rw [set_same e1]⟩
        · cases e
      · cases e
    · cases e
  · cases e
end
theorem rn_refs2 {t : List Nat} {a b a' b' : Nat} (ha : t[a]? = some a') (hb : t[b]? = some b') : RnWs t [.ref a, .ref b] [.ref a', .ref b'] := .cons (.ref ha) (.cons (.ref hb) .nil)
theorem lies_can (T : Tk) (hc : VH) (a b c d e f g s : Nat)
    (h0 : hc[a]? = some (.pl (.ins 0 [.int T.marks, .int T.window, .int T.life, .ref b, .int T.known, .ref c, .ref d, .ref e, .ref s, .int T.now, .int T.last])))
    (h1 : hc[b]? = some (.pl (.lst (T.said.map W.int)))) (h2 : hc[c]? = some (.pl (.lst (T.heard.map W.int)))) (h3 : hc[d]? = some (.pl (.dct (encE T.early))))
    (h4 : hc[e]? = some (.pl (.lst [.ref f, .ref g]))) (h5 : hc[f]? = some (.pl (.lst (encR T.r0)))) (h6 : hc[g]? = some (.pl (.lst (encR T.r1)))) (h7 : hc[s]? = some (.pl (.lst [.bl T.u0, .bl T.u1]))) : Lies [a, b, c, d, e, f, g, s] (canT T) hc := by
  refine ⟨rfl, fun i o ei => ?_⟩
  match i, ei with
  | 0, ei => cases ei; exact ⟨a, _, rfl, h0, .ins (.cons (.int _) (.cons (.int _) (.cons (.int _) (.cons (.ref rfl) (.cons (.int _) (.cons (.ref rfl) (.cons (.ref rfl) (.cons (.ref rfl) (.cons (.ref rfl) (.cons (.int _) (.cons (.int _) .nil)))))))))))⟩
  | 1, ei => cases ei; exact ⟨b, _, rfl, h1, .lst (noRs_ints _).rn⟩
  | 2, ei => cases ei; exact ⟨c, _, rfl, h2, .lst (noRs_ints _).rn⟩
  | 3, ei => cases ei; exact ⟨d, _, rfl, h3, .dct (rnK_encE _)⟩
  | 4, ei => cases ei; exact ⟨e, _, rfl, h4, .lst (rn_refs2 rfl rfl)⟩
  | 5, ei => cases ei; exact ⟨f, _, rfl, h5, .lst (noRs_encR _).rn⟩
  | 6, ei => cases ei; exact ⟨g, _, rfl, h6, .lst (noRs_encR _).rn⟩
  | 7, ei => cases ei; exact ⟨s, _, rfl, h7, .lst (.cons (.bl _) (.cons (.bl _) .nil))⟩
  | n + 8, ei => simp [canT] at ei
theorem lies_canH (T : Tk) (hc : VH) (a b c d e f g s : Nat)
    (h0 : hc[a]? = some (.pl (.rcd 0 [.tup [.int T.marks, .int T.window, .int T.life], .ref b, .int T.known, .ref c, .ref d, .ref e, .ref s, .int T.now, .int T.last])))
    (h1 : hc[b]? = some (.pl (.lst (T.said.map W.int)))) (h2 : hc[c]? = some (.pl (.lst (T.heard.map W.int)))) (h3 : hc[d]? = some (.pl (.dct (encE T.early))))
    (h4 : hc[e]? = some (.pl (.lst [.ref f, .ref g]))) (h5 : hc[f]? = some (.pl (.lst (encR T.r0)))) (h6 : hc[g]? = some (.pl (.lst (encR T.r1)))) (h7 : hc[s]? = some (.pl (.lst [.bl T.u0, .bl T.u1]))) : Lies [a, b, c, d, e, f, g, s] (canH T) hc := by
  refine ⟨rfl, fun i o ei => ?_⟩
  match i, ei with
  | 0, ei => cases ei; exact ⟨a, _, rfl, h0, .rcd (.cons (.tup (.cons (.int _) (.cons (.int _) (.cons (.int _) .nil)))) (.cons (.ref rfl) (.cons (.int _) (.cons (.ref rfl) (.cons (.ref rfl) (.cons (.ref rfl) (.cons (.ref rfl) (.cons (.int _) (.cons (.int _) .nil)))))))))⟩
  | 1, ei => cases ei; exact ⟨b, _, rfl, h1, .lst (noRs_ints _).rn⟩
  | 2, ei => cases ei; exact ⟨c, _, rfl, h2, .lst (noRs_ints _).rn⟩
  | 3, ei => cases ei; exact ⟨d, _, rfl, h3, .dct (rnK_encE _)⟩
  | 4, ei => cases ei; exact ⟨e, _, rfl, h4, .lst (rn_refs2 rfl rfl)⟩
  | 5, ei => cases ei; exact ⟨f, _, rfl, h5, .lst (noRs_encR _).rn⟩
  | 6, ei => cases ei; exact ⟨g, _, rfl, h6, .lst (noRs_encR _).rn⟩
  | 7, ei => cases ei; exact ⟨s, _, rfl, h7, .lst (.cons (.bl _) (.cons (.bl _) .nil))⟩
  | n + 8, ei => simp [canH] at ei
end Tw

/-! a box made anew; two boxes at once -/
namespace Tw
open PySem PySem.Spec PyProof.Rows L2
section
variable {G : Gm} {P : Program} {w : World} {K : PySem.W.Frag} {mg : Str → Option Value} {base : Heap}
theorem Emb.nil {H : Hp} : Emb G [] [] H := ⟨rfl, by simp, fun n c e => by simp at e⟩
theorem FnV.fresh {k : Nat} {f : Addr} {fd : FuncData} {ps : List Str} {F S : Fn} (Fn : FnV G P w K mg base k f fd ps F)
    (hS : ∀ ws h r h', S ws h = some (r, h') → ∃ c os j hc' t, NoRs ws ∧ F ws [] = some (.ok (.ref j), hc') ∧ IsBox c os ∧ Lies t os hc' ∧ t.Nodup ∧ t[0]? = some j ∧ r = .ok (.ref h.length) ∧ h' = h ++ [c]) : FnV G P w K mg base k f fd ps S := by
  refine FnV.abs Fn fun ws h r h' e io H E => ?_
  obtain ⟨c, os, j, hc', t, nr, eF, ib, L, nd, t0, rfl, rfl⟩ := hS ws h r h' e
  refine ⟨ws, [], _, hc', [], eF, Emb.nil, fun vs r => nr.rel r, fun ioc' H' x' E' => ?_⟩
  have own : ∀ a, a ∈ ioc'.flatten → H a = none := fun a ha => by
    rcases x'.own a ha with z | z
    · simp at z
    · exact z
  have keep : ∀ a o, H a = some o → H' a = some o := fun a o e => x'.keep a o e (by simp)
  have fr : ∀ a ∈ adrs ioc' t, H a = none := fun a ha => by
    obtain ⟨i, k, _, ek⟩ := L.mem E' ha
    exact own a (mem_flat ek List.mem_cons_self)
  refine ⟨io ++ [adrs ioc' t], ⟨fun i a z => adr_app z, fun a ha => ?_, fun a o e _ => keep a o e, x'.trk, x'.tup⟩, ⟨by simp [E.len], ?_, fun i cc ei => ?_⟩, fun v rv => ?_⟩
  · rw [List.flatten_append, List.mem_append] at ha
    rcases ha with z | z
    · exact .inl z
    · simp at z
      exact .inr (fr a z)
  · rw [List.flatten_append, List.nodup_append]
    refine ⟨E.nd, by simpa using L.nodup E' nd, fun a ha b hb z => ?_⟩
    simp at hb
    subst z
    exact E.fresh (fr a hb) ha
  · by_cases q : i < h.length
    · rw [List.getElem?_append_left q] at ei
      obtain ⟨li, eli, ri⟩ := E.at_ i cc ei
      exact ⟨li, by rw [List.getElem?_append_left (by rw [E.len]; exact q)]; exact eli, ri.mono (fun _ _ z => adr_app z) x'.tup fun a _ u z => keep a u z⟩
    · have hi : i = h.length := by
        have := (List.getElem?_eq_some_iff.mp ei).1
        simp at this
        omega
      subst hi
      rw [List.getElem?_append_right (Nat.le_refl _)] at ei
      simp at ei
      subst ei
      exact ⟨adrs ioc' t, by rw [← E.len, List.getElem?_append_right (Nat.le_refl _)]; simp, ib _ _ _ _ (L.box E')⟩
  · cases rv with
    | ref z =>
      refine .ref ?_
      obtain ⟨b, _, _, _, _, _, _, eb, ed, _⟩ := L.at_ E' t0
      rw [z] at eb
      cases eb
      unfold adr
      rw [← E.len, List.getElem?_append_right (Nat.le_refl _)]
      simp
      rw [List.head?_eq_getElem?]
      exact ed
theorem two_back {io ioc ioc' : List (List Addr)} {h : VH} {H H' : Hp} {a b : Nat} {la lb la' lb' : List Addr} {ca cb : Cell} (E : Emb G io h H) (ea : io[a]? = some la) (eb : io[b]? = some lb) (ne : a ≠ b)
    (hs : ∀ p ∈ ioc.flatten, p ∈ la ∨ p ∈ lb) (x' : Ext ioc H ioc' H') (sa : ∀ p ∈ la', p ∈ ioc'.flatten) (sb : ∀ p ∈ lb', p ∈ ioc'.flatten) (na : la'.Nodup) (nb : lb'.Nodup) (dj : ∀ p ∈ la', p ∉ lb')
    (ra : ∀ p, la.head? = some p → la'.head? = some p) (rb : ∀ p, lb.head? = some p → lb'.head? = some p) (ka : ∀ ad, CellR G ad H' la' ca) (kb : ∀ ad, CellR G ad H' lb' cb) :
    Ext io H ((io.set a la').set b lb') H' ∧ Emb G ((io.set a la').set b lb') ((h.set a ca).set b cb) H' := by
  have hla : a < io.length := (List.getElem?_eq_some_iff.mp ea).1
  have hlb : b < io.length := (List.getElem?_eq_some_iff.mp eb).1
  have own : ∀ p, p ∈ ioc'.flatten → (p ∈ la ∨ p ∈ lb) ∨ H p = none := fun p hp => by
    rcases x'.own p hp with z | z
    · exact .inl (hs p z)
    · exact .inr z
  have keep : ∀ p o, H p = some o → p ∉ la → p ∉ lb → H' p = some o := fun p o e h1 h2 => x'.keep p o e fun z => by rcases hs p z with q | q; exact h1 q; exact h2 q
  have dis : ∀ p, p ∈ ioc'.flatten → ∀ m l, m ≠ a → m ≠ b → io[m]? = some l → p ∉ l := fun p hp m l h1 h2 em hl => by
    rcases own p hp with (z | z) | z
    · exact nodup_flat_ne E.nd em ea h1 hl z
    · exact nodup_flat_ne E.nd em eb h2 hl z
    · exact E.fresh z (mem_flat em hl)
  have root : ∀ m p, adr io m = some p → adr ((io.set a la').set b lb') m = some p := fun m p e => by
    unfold adr at e ⊢
    by_cases qb : m = b
    · subst qb
      rw [List.getElem?_set_self (by rw [List.length_set]; exact hlb)]
      rw [eb] at e
      exact rb p e
    · rw [List.getElem?_set_ne (Ne.symm qb)]
      by_cases qa : m = a
      · subst qa
        rw [List.getElem?_set_self hla]
        rw [ea] at e
        exact ra p e
      · rw [List.getElem?_set_ne (Ne.symm qa)]
        exact e
  have eb' : (io.set a la')[b]? = some lb := by rw [List.getElem?_set_ne ne]; exact eb
  refine ⟨⟨root, fun p hp => ?_, fun p o e np => keep p o e (fun z => np (mem_flat ea z)) (fun z => np (mem_flat eb z)), x'.trk, x'.tup⟩, ⟨by simp [E.len], ?_, fun m cc em => ?_⟩⟩
  · rcases mem_set_flat hp with z | ⟨m, l', hm, em, z⟩
    · rcases own p (sb p z) with (q | q) | q
      · exact .inl (mem_flat ea q)
      · exact .inl (mem_flat eb q)
      · exact .inr q
    · by_cases qa : m = a
      · subst qa
        rw [List.getElem?_set_self hla] at em
        cases em
        rcases own p (sa p z) with (q | q) | q
        · exact .inl (mem_flat ea q)
        · exact .inl (mem_flat eb q)
        · exact .inr q
      · rw [List.getElem?_set_ne (Ne.symm qa)] at em
        exact .inl (mem_flat em z)
  · have n1 : (io.set b []).flatten.Nodup := nodup_set E.nd (by simp) fun _ _ _ _ p hp => by simp at hp
    have n2 : ((io.set b []).set a la').flatten.Nodup := nodup_set n1 na fun m l' hm em p hp => by
      by_cases qb : m = b
      · subst qb
        rw [List.getElem?_set_self hlb] at em
        cases em
        simp
      · rw [List.getElem?_set_ne (Ne.symm qb)] at em
        exact dis p (sa p hp) m l' hm qb em
    have n3 : (((io.set b []).set a la').set b lb').flatten.Nodup := nodup_set n2 nb fun m l' hm em p hp => by
      by_cases qa : m = a
      · subst qa
        rw [List.getElem?_set_self (by rw [List.length_set]; exact hla)] at em
        cases em
        exact fun z => dj p z hp
      · rw [List.getElem?_set_ne (Ne.symm qa), List.getElem?_set_ne (Ne.symm hm)] at em
        exact dis p (sb p hp) m l' qa hm em
    rw [List.set_comm _ _ (Ne.symm ne), List.set_set] at n3
    exact n3
  · by_cases qb : m = b
    · subst qb
      rw [List.getElem?_set_self (by rw [List.length_set, ← E.len]; exact hlb)] at em
      cases em
      exact ⟨lb', List.getElem?_set_self (by rw [List.length_set]; exact hlb), kb _⟩
    · rw [List.getElem?_set_ne (Ne.symm qb)] at em
      by_cases qa : m = a
      · subst qa
        rw [List.getElem?_set_self (by rw [← E.len]; exact hla)] at em
        cases em
        exact ⟨la', by rw [List.getElem?_set_ne (Ne.symm qb)]; exact List.getElem?_set_self hla, ka _⟩
      · rw [List.getElem?_set_ne (Ne.symm qa)] at em
        obtain ⟨lm, elm, r⟩ := E.at_ m cc em
        exact ⟨lm, by rw [List.getElem?_set_ne (Ne.symm qb), List.getElem?_set_ne (Ne.symm qa)]; exact elm, r.mono root x'.tup fun p hp u z => keep p u z (fun y => nodup_flat_ne E.nd elm ea qa hp y) (fun y => nodup_flat_ne E.nd elm eb qb hp y)⟩
theorem Emb.snoc {io : List (List Addr)} {h : VH} {H : Hp} {l : List Addr} {c : Cell} (E : Emb G io h H) (k : ∀ ad, CellR G ad H l c) (nl : l.Nodup) (dj : ∀ p ∈ l, p ∉ io.flatten) : Emb G (io ++ [l]) (h ++ [c]) H := by
  refine ⟨by simp [E.len], ?_, fun i cc ei => ?_⟩
  · rw [List.flatten_append, List.nodup_append]
    refine ⟨E.nd, by simpa using nl, fun a ha b hb z => ?_⟩
    simp at hb
    subst z
    exact dj a hb ha
  · by_cases q : i < h.length
    · rw [List.getElem?_append_left q] at ei
      obtain ⟨li, eli, ri⟩ := E.at_ i cc ei
      exact ⟨li, by rw [List.getElem?_append_left (by rw [E.len]; exact q)]; exact eli, ri.mono (fun _ _ z => adr_app z) (fun _ _ z _ => z) fun _ _ _ z => z⟩
    · have hi : i = h.length := by
        have := (List.getElem?_eq_some_iff.mp ei).1
        simp at this
        omega
      subst hi
      rw [List.getElem?_append_right (Nat.le_refl _)] at ei
      simp at ei
      subst ei
      exact ⟨l, by rw [← E.len, List.getElem?_append_right (Nat.le_refl _)]; simp, k _⟩
/-- a talk and what is held, side by side, the held one opened; neither is changed -/
theorem FnV.two {k : Nat} {f : Addr} {fd : FuncData} {ps : List Str} {F S : Fn} (Fn : FnV G P w K mg base k f fd ps F)
    (hS : ∀ ws h r h', S ws h = some (r, h') → ∃ a b T U v x, ws = [.ref a, .ref b] ∧ h[a]? = some (.tk T) ∧ h[b]? = some (.hd U) ∧ F [.ref 8, .ref 0] ((canH U).map Cell.pl ++ [.tk T]) = some (.ok v, (canH U).map Cell.pl ++ .tk T :: x) ∧ NoR v ∧ r = .ok v ∧ h' = h) : FnV G P w K mg base k f fd ps S := by
  refine FnV.abs Fn fun ws h r h' e io H E => ?_
  obtain ⟨a, b, T, U, v, x, rfl, ha, hb, eF, nv, rfl, rfl⟩ := hS ws h r h' e
  obtain ⟨la, ea, ra⟩ := E.at_ a _ ha
  obtain ⟨lb, eb, rb⟩ := E.at_ b _ hb
  have ne : a ≠ b := fun q => by subst q; rw [ha] at hb; cases hb
  have rb' : BoxR G H lb (canH U) := rb
  have ll : lb.length = 8 := rb'.1
  have na : la.Nodup := sub_nodup E.nd ea
  have nb : lb.Nodup := sub_nodup E.nd eb
  have dj : ∀ p ∈ la, p ∉ lb := fun p h1 h2 => nodup_flat_ne E.nd ea eb ne h1 h2
  have Ec : Emb G ((lb.map fun p => [p]) ++ [la]) ((canH U).map Cell.pl ++ [.tk T]) H := (rb'.emb nb).snoc (fun _ => ra) na fun p hp => by rw [flat_single]; exact dj p hp
  have h8 : ((lb.map fun p => [p]) ++ [la])[8]? = some la := by
    rw [List.getElem?_append_right (by rw [List.length_map, ll]; exact Nat.le_refl _)]
    simp [ll]
  refine ⟨_, _, _, _, (lb.map fun p => [p]) ++ [la], eF, Ec, fun vs r => ?_, fun ioc' H' x' E' => ?_⟩
  · cases r with
    | cons r1 r2 =>
      cases r2 with
      | cons r2 r3 =>
        cases r3
        cases r1 with
        | ref z1 =>
          cases r2 with
          | ref z2 =>
            unfold adr at z1 z2
            rw [ea] at z1
            rw [eb] at z2
            refine .cons (.ref ?_) (.cons (.ref ?_) .nil)
            · unfold adr
              rw [h8]
              exact z1
            · refine adr_app ?_
              rw [adr_single, ← List.head?_eq_getElem?]
              exact z2
  · have L : Lies [0, 1, 2, 3, 4, 5, 6, 7] (canH U) ((canH U).map Cell.pl ++ .tk T :: x) := lies_canH U _ _ _ _ _ _ _ _ _ rfl rfl rfl rfl rfl rfl rfl rfl
    obtain ⟨la', ea', ra'⟩ := E'.at_ 8 (.tk T) rfl
    have hs : ∀ p ∈ ((lb.map fun p => [p]) ++ [la]).flatten, p ∈ la ∨ p ∈ lb := fun p hp => by
      rw [List.flatten_append, List.mem_append, flat_single] at hp
      rcases hp with z | z
      · exact .inr z
      · exact .inl (by simpa using z)
    have nd : [0, 1, 2, 3, 4, 5, 6, 7].Nodup := by decide
    obtain ⟨x2, E2⟩ := two_back (la' := la') (lb' := adrs ioc' [0, 1, 2, 3, 4, 5, 6, 7]) (ca := .tk T) (cb := .hd U) E ea eb ne hs x' (fun p hp => mem_flat ea' hp) (fun p hp => by
        obtain ⟨i, j, _, ej⟩ := L.mem E' hp
        exact mem_flat ej List.mem_cons_self) (sub_nodup E'.nd ea') (L.nodup E' nd) (fun p h1 h2 => by
        obtain ⟨i, j, ei, ej⟩ := L.mem E' h2
        have : (8 : Nat) ≠ j := fun q => by
          subst q
          have := List.mem_of_getElem? ei
          revert this
          decide
        exact nodup_flat_ne E'.nd ea' ej this h1 List.mem_cons_self) (fun p e => by
        have := x'.root 8 p (by unfold adr; rw [h8]; exact e)
        unfold adr at this
        rw [ea'] at this
        exact this) (fun p e => by
        have := x'.root 0 p (adr_app (by rw [adr_single, ← List.head?_eq_getElem?]; exact e))
        obtain ⟨q, _, _, _, _, _, _, eq, ed, _⟩ := L.at_ E' (i := 0) rfl
        rw [this] at eq
        cases eq
        rw [List.head?_eq_getElem?]
        exact ed) (fun _ => ra') (fun _ => L.box E')
    rw [set_same ha, set_same hb] at E2
    exact ⟨_, x2, E2, fun u ru => nv.rel ru⟩
end
end Tw

/-! a reading into the held box -/
namespace Tw
open PySem PySem.Spec PyProof.Rows L2
section
variable {G : Gm} {X : Cx} {Wx : WX} {o : Expr} {fo : FE} {pos : Pos}
@[simp] def fHup (i : Nat) (fo : FE) : FE := fun fm h => bindM (fo fm h) fun w h1 => match w with
  | .ref n => (match h1[n]? with
    | some (.hd T) => (match fm[i]? with
      | some (some (.int p)) => if p = 0 ∨ p = 1 then some (.ok (.bl (T.up p)), h1) else none
      | _ => none)
    | _ => none)
  | _ => none
theorem se_hup (i : Nat) {x : Str} {k : Nat} {p1 p2 p3 : Pos} (hK : X.K = G.K) (hu : X.A.units + 1 < cLine) (hx : (G.rk 0)[6]? = some (Str.ofString "up")) (ho : SE G X Wx o fo) (hN : X.N[i]? = some x := by rfl) (hv : Vis X.env.scope x := by first | exact Or.inl rfl | exact Or.inr (Or.inl rfl) | exact Or.inr (Or.inr rfl)) (hd : (x == ("__debug__" : Str)) = false := by decide)
    (hcd : (x == ("__classdict__" : Str)) = false := by decide) : SE G X Wx (.Subscript (.Subscript o (.Constant (.str "up") k p1) p2) (.Name x p3) pos) (fHup i fo) := by
  refine PEw (pe_ix ix_w (pe_dget hu ho pe_str (fun _ _ => rfl)) (pe_var hN hv hd hcd) (fun _ _ => rfl)) fun s H Q q => ?_
  obtain ⟨fm, h, r, h', io, e, E, S, p⟩ := q
  refine cG_step E S e p fun a h1 e1 io1 H1 v x1 E1 rv => ?_
  split at e1
  · rename_i n
    split at e1
    · rename_i T hn
      split at e1
      · rename_i q hq
        split at e1
        · rename_i hp
          cases e1
          obtain ⟨l, el, bl⟩ := E1.at_ n _ hn
          have b0 : BoxR G H1 l (canH T) := bl
          obtain ⟨b, eb, vs, hv0, rvs, hl, nd⟩ := b0.2 0 _ rfl
          obtain ⟨u, hu', ru⟩ := rvs.get (i := 6) rfl
          obtain ⟨c, ec, us, hc, rus⟩ := b0.2 7 _ rfl
          cases ru with
          | @ref _ c' z =>
            have zc : c' = c := by
              rw [ec] at z
              exact (Option.some.inj z).symm
            subst zc
            have hb : v = .ref b := by
              cases rv with
              | ref y =>
                unfold adr at y
                rw [el] at y
                have y' : l.head? = some _ := y
                rw [List.head?_eq_getElem?, eb] at y'
                cases y'
                rfl
            subst hb
            have g := DGet.k (k := Sum.inr ("up" : Str)) hv0
            rw [zipK_val nd hx, hu'] at g
            refine ⟨b, .ref c', rfl, g, ?_⟩
            obtain ⟨v2, e2, rv2⟩ := (S.ext x1).2.1 i (.int q) hq
            cases rv2
            refine ⟨_, e2, .inl ⟨c', us, q, .bl (T.up q), rfl, rfl, ?_, ?_, p io1 H1 x1 E1 _ (.bl _)⟩⟩
            · exact .inl (.inl hc)
            · cases rus with
              | cons r1 r2 =>
                cases r2 with
                | cons r2 r3 =>
                  cases r3
                  cases r1
                  cases r2
                  rcases hp with rfl | rfl <;> rfl
        · cases e1
      · cases e1
    · cases e1
  · cases e1
end
end Tw

/-! with marks enough, what is heard is the beginning of what is said -/
namespace Tw
open PySem L2
def Tk.bonus (T : Tk) : Int := if T.last = T.now then 1 else 0
/-- a word or an answer with the number n was put on the road at t -/
def Tk.Near (T : Tk) (n t : Int) : Prop := t ≤ T.now ∧ T.now - t < T.life ∧ (T.said.length : Int) ≤ n + T.window + (T.now - t) + T.bonus
def Tk.OkL (T : Tk) : Ltr × Int → Prop
  | (.ltr m w, t) => ∃ n : Int, 0 ≤ n ∧ n < T.said.length ∧ m = n % T.marks ∧ T.saidAt n = w ∧ T.Near n t
  | (.ans m, t) => ∃ n : Int, 0 ≤ n ∧ n ≤ T.heard.length ∧ m = n % T.marks ∧ T.Near n t
structure Tk.Safe (T : Tk) : Prop where
  mw : 2 * T.window + T.life ≤ T.marks
  w1 : 1 ≤ T.window
  l1 : 1 ≤ T.life
  k0 : 0 ≤ T.known
  kh : T.known ≤ T.heard.length
  hl : T.heard.length ≤ T.said.length
  hs : T.heard = T.said.take T.heard.length
  win : (T.said.length : Int) - T.known ≤ T.window
  ln : T.last ≤ T.now
  ear : ∀ p ∈ T.early, (T.heard.length : Int) < p.1 ∧ p.1 < T.said.length ∧ T.saidAt p.1 = p.2
  r0 : ∀ p ∈ T.r0, T.OkL p
  r1 : ∀ p ∈ T.r1, T.OkL p
theorem mod_same {a b m : Int} (hm : 0 < m) (h : a % m = b % m) (h1 : a - b < m) (h2 : b - a < m) : a = b := by
  have h3 : (a - b) % m = 0 := by rw [Int.sub_emod, h, Int.sub_self, Int.zero_emod]
  obtain ⟨c, hc⟩ := Int.dvd_of_emod_eq_zero h3
  have : c = 0 := by
    rcases Int.lt_trichotomy c 0 with q | q | q
    · have : m * c ≤ m * (-1) := Int.mul_le_mul_of_nonneg_left (by omega) (by omega)
      omega
    · exact q
    · have : m * 1 ≤ m * c := Int.mul_le_mul_of_nonneg_left (by omega) (by omega)
      omega
  subst this
  omega
def Ears (S h : List Int) (e : List (Int × Int)) : Prop := h = S.take h.length ∧ h.length ≤ S.length ∧ ∀ p ∈ e, (h.length : Int) ≤ p.1 ∧ p.1 < S.length ∧ S[p.1.toNat]?.getD 0 = p.2
theorem dgetI_mem {k w : Int} : ∀ {l : List (Int × Int)}, dgetI k l = some w → (k, w) ∈ l
  | [], e => by cases e
  | p :: r, e => by
    unfold dgetI at e
    split at e
    · rename_i h
      cases e
      subst h
      exact List.mem_cons_self
    · exact List.mem_cons_of_mem _ (dgetI_mem e)
theorem ddropI_mem {k : Int} : ∀ {l : List (Int × Int)} {p : Int × Int}, p ∈ ddropI k l → p ∈ l ∧ p.1 ≠ k
  | [], p, h => by simp [ddropI] at h
  | q :: r, p, h => by
    unfold ddropI at h
    split at h
    · obtain ⟨h1, h2⟩ := ddropI_mem h
      exact ⟨List.mem_cons_of_mem _ h1, h2⟩
    · rename_i hq
      rcases List.mem_cons.mp h with z | z
      · subst z; exact ⟨List.mem_cons_self, hq⟩
      · obtain ⟨h1, h2⟩ := ddropI_mem z
        exact ⟨List.mem_cons_of_mem _ h1, h2⟩
theorem dgetI_none {k : Int} : ∀ {l : List (Int × Int)}, dgetI k l = none → ∀ p ∈ l, p.1 ≠ k
  | [], _, p, h => by simp at h
  | q :: r, e, p, h => by
    unfold dgetI at e
    split at e
    · cases e
    · rename_i hq
      rcases List.mem_cons.mp h with z | z
      · subst z; exact hq
      · exact dgetI_none e p z
theorem drain_ears {S : List Int} : ∀ (k : Nat) (h : List Int) (e : List (Int × Int)), Ears S h e → Ears S (drain k h e).1 (drain k h e).2
  | 0, h, e, a => a
  | k + 1, h, e, a => by
    unfold drain
    split
    · rename_i w q
      obtain ⟨a1, a2, a3⟩ := a
      obtain ⟨b1, b2, b3⟩ := a3 _ (dgetI_mem q)
      refine drain_ears k _ _ ⟨?_, ?_, fun p hp => ?_⟩
      · have hl : h.length < S.length := by have : ((h.length : Int)) < S.length := b2; omega
        rw [List.length_append, List.length_singleton, List.take_succ, ← a1]
        have b3' : S[h.length]?.getD 0 = w := by simpa using b3
        rw [List.getElem?_eq_getElem hl] at b3' ⊢
        simpa using b3'.symm
      · rw [List.length_append, List.length_singleton]
        have : ((h.length : Int)) < S.length := b2
        omega
      · obtain ⟨c1, c2⟩ := ddropI_mem hp
        obtain ⟨d1, d2, d3⟩ := a3 p c1
        rw [List.length_append, List.length_singleton]
        exact ⟨by omega, d2, d3⟩
    · exact a
theorem Tk.Near.far {T : Tk} {n t : Int} (h : T.Near n t) : (T.said.length : Int) ≤ n + T.window + T.life := by
  obtain ⟨h1, h2, h3⟩ := h
  have : T.bonus ≤ 1 := by unfold Tk.bonus; split <;> omega
  omega
theorem drain_len : ∀ (k : Nat) (h : List Int) (e : List (Int × Int)), h.length ≤ (drain k h e).1.length
  | 0, h, e => Nat.le_refl _
  | k + 1, h, e => by
    unfold drain
    split
    · rename_i w q
      have := drain_len k (h ++ [w]) (ddropI h.length e)
      rw [List.length_append, List.length_singleton] at this
      omega
    · exact Nat.le_refl _
theorem Tk.OkL.up {T U : Tk} (e1 : U.said = T.said) (e2 : U.marks = T.marks) (e3 : U.window = T.window) (e4 : U.life = T.life) (e5 : U.now = T.now) (e6 : U.last = T.last) (e7 : T.heard.length ≤ U.heard.length) {p : Ltr × Int} (h : T.OkL p) : U.OkL p := by
  have hn : ∀ n t, T.Near n t → U.Near n t := fun n t z => by
    unfold Tk.Near Tk.bonus at z ⊢
    rw [e1, e3, e4, e5, e6]
    exact z
  obtain ⟨l, t⟩ := p
  cases l with
  | ltr m w =>
    obtain ⟨n, a1, a2, a3, a4, a5⟩ := h
    exact ⟨n, a1, by rw [e1]; exact a2, by rw [e2]; exact a3, by unfold Tk.saidAt at a4 ⊢; rw [e1]; exact a4, hn _ _ a5⟩
  | ans m =>
    obtain ⟨n, a1, a2, a3, a5⟩ := h
    exact ⟨n, a1, by omega, by rw [e2]; exact a3, hn _ _ a5⟩
theorem Tk.Safe.arrive {T : Tk} (s : T.Safe) {l : Ltr} {t : Int} (h : T.OkL (l, t)) : (T.arrive l).2.Safe := by
  have mw := s.mw
  have w1 := s.w1
  have l1 := s.l1
  have k0 := s.k0
  have kh := s.kh
  have hl := s.hl
  have win := s.win
  have mp : 0 < T.marks := by omega
  cases l with
  | ans m =>
    obtain ⟨n, a1, a2, a3, a4⟩ := h
    have far := a4.far
    unfold Tk.arrive
    simp only
    split
    · rename_i hf
      have r0 := Int.emod_nonneg (m - T.known) (Int.ne_of_gt mp)
      have r1 := Int.emod_lt_of_pos (m - T.known) mp
      have e : (T.known + (m - T.known) % T.marks) % T.marks = n % T.marks := by
        rw [Int.add_emod_emod, show T.known + (m - T.known) = m by omega, a3, Int.emod_emod_of_dvd _ (Int.dvd_refl _)]
      have hn : T.known + (m - T.known) % T.marks = n := by
        by_cases q : T.known ≤ n
        · exact mod_same mp e (by omega) (by omega)
        · exfalso
          have e' : T.known + (m - T.known) % T.marks = n + T.marks := by
            refine mod_same mp ?_ (by omega) (by omega)
            rw [e, Int.add_emod_right]
          omega
      refine ⟨mw, w1, l1, ?_, ?_, hl, s.hs, ?_, s.ln, s.ear, fun p hp => (s.r0 p hp).up rfl rfl rfl rfl rfl rfl (Nat.le_refl _), fun p hp => (s.r1 p hp).up rfl rfl rfl rfl rfl rfl (Nat.le_refl _)⟩
      · show 0 ≤ T.known + (m - T.known) % T.marks
        omega
      · show T.known + (m - T.known) % T.marks ≤ T.heard.length
        omega
      · show (T.said.length : Int) - (T.known + (m - T.known) % T.marks) ≤ T.window
        omega
    · exact s
  | ltr m w =>
    obtain ⟨n, a1, a2, a3, a4, a5⟩ := h
    have far := a5.far
    unfold Tk.arrive
    simp only
    split
    · exact s
    rename_i hw
    split
    · exact s
    have r0 := Int.emod_nonneg (m - T.heard.length) (Int.ne_of_gt mp)
    have e : ((T.heard.length : Int) + (m - T.heard.length) % T.marks) % T.marks = n % T.marks := by
      rw [Int.add_emod_emod, show (T.heard.length : Int) + (m - T.heard.length) = m by omega, a3, Int.emod_emod_of_dvd _ (Int.dvd_refl _)]
    have hn : (T.heard.length : Int) + (m - T.heard.length) % T.marks = n := mod_same mp e (by omega) (by omega)
    rw [hn]
    have E0 : Ears T.said T.heard (T.early ++ [(n, w)]) := ⟨s.hs, hl, fun p hp => by
      rcases List.mem_append.mp hp with z | z
      · obtain ⟨b1, b2, b3⟩ := s.ear p z
        exact ⟨by omega, b2, b3⟩
      · simp at z
        subst z
        exact ⟨by show (T.heard.length : Int) ≤ n; omega, a2, a4⟩⟩
    obtain ⟨E1, E2, E3⟩ := drain_ears (T.early.length + 1) _ _ E0
    have dl := drain_len (T.early.length + 1) T.heard (T.early ++ [(n, w)])
    have de := drain_end (T.early.length + 1) T.heard (T.early ++ [(n, w)]) (by simp)
    refine ⟨mw, w1, l1, k0, ?_, E2, E1, win, s.ln, fun p hp => ?_, fun p hp => ?_, fun p hp => ?_⟩
    · show T.known ≤ ((drain _ _ _).1.length : Int)
      omega
    · obtain ⟨c1, c2, c3⟩ := E3 p hp
      have := dgetI_none de p hp
      exact ⟨by show ((drain _ _ _).1.length : Int) < p.1; omega, c2, c3⟩
    · exact Tk.OkL.up (T := T) (U := { T with heard := (drain (T.early.length + 1) T.heard (T.early ++ [(n, w)])).1, early := (drain (T.early.length + 1) T.heard (T.early ++ [(n, w)])).2 }) rfl rfl rfl rfl rfl rfl dl (s.r0 p hp)
    · exact Tk.OkL.up (T := T) (U := { T with heard := (drain (T.early.length + 1) T.heard (T.early ++ [(n, w)])).1, early := (drain (T.early.length + 1) T.heard (T.early ++ [(n, w)])).2 }) rfl rfl rfl rfl rfl rfl dl (s.r1 p hp)
theorem Tk.Safe.roads {T : Tk} (s : T.Safe) {a b : List (Ltr × Int)} {x y : Bool} (ha : ∀ p ∈ a, T.OkL p) (hb : ∀ p ∈ b, T.OkL p) : Tk.Safe { T with r0 := a, r1 := b, u0 := x, u1 := y } :=
  ⟨s.mw, s.w1, s.l1, s.k0, s.kh, s.hl, s.hs, s.win, s.ln, s.ear, fun p hp => Tk.OkL.up (T := T) rfl rfl rfl rfl rfl rfl (Nat.le_refl _) (ha p hp), fun p hp => Tk.OkL.up (T := T) rfl rfl rfl rfl rfl rfl (Nat.le_refl _) (hb p hp)⟩
theorem Tk.Safe.sRd {T : Tk} (s : T.Safe) (p : Int) {r : List (Ltr × Int)} (h : ∀ q ∈ r, T.OkL q) : (T.sRd p r).Safe := by
  unfold Tk.sRd
  split
  · exact s.roads h s.r1
  · exact s.roads s.r0 h
theorem Tk.Safe.rdOk {T : Tk} (s : T.Safe) (p : Int) : ∀ q ∈ T.rd p, T.OkL q := by
  unfold Tk.rd
  split
  · exact s.r0
  · exact s.r1
theorem Tk.Safe.sUp {T : Tk} (s : T.Safe) (p : Int) (b : Bool) : (T.sUp p b).Safe := by
  unfold Tk.sUp
  split
  · exact s.roads s.r0 s.r1
  · exact s.roads s.r0 s.r1
theorem Tk.Safe.off {T : Tk} (s : T.Safe) (p i : Int) : (T.off p i).Safe := s.sRd p fun q hq => s.rdOk p q (List.mem_of_mem_eraseIdx hq)
theorem Tk.bonus_nn (T : Tk) : 0 ≤ T.bonus := by unfold Tk.bonus; split <;> omega
theorem Tk.Safe.put {T : Tk} (s : T.Safe) (p : Int) {l : Ltr} (h : T.OkL (l, T.now)) : (T.put p l).Safe := s.sRd p fun q hq => by
  rcases List.mem_append.mp hq with z | z
  · exact s.rdOk p q z
  · simp at z
    subst z
    exact h
theorem Tk.Safe.okLtr {T : Tk} (s : T.Safe) {n : Int} (h0 : T.known ≤ n) (h1 : n < T.said.length) : T.OkL (T.ltrOf n, T.now) := by
  have := T.bonus_nn
  have := s.win
  have := s.k0
  have := s.l1
  exact ⟨n, by omega, h1, rfl, rfl, by omega, by omega, by omega⟩
theorem Tk.Safe.okAns {T : Tk} (s : T.Safe) : T.OkL (T.ansOf, T.now) := by
  have := T.bonus_nn
  have := s.win
  have := s.kh
  have := s.l1
  exact ⟨T.heard.length, by omega, by omega, rfl, by omega, by omega, by omega⟩
theorem saidAt_app (T : Tk) (w n : Int) (h0 : 0 ≤ n) (h1 : n < T.said.length) (a : Int) : Tk.saidAt { T with said := T.said ++ [w], last := a } n = T.saidAt n := by
  unfold Tk.saidAt
  show (T.said ++ [w])[n.toNat]?.getD 0 = _
  rw [List.getElem?_append_left (by omega)]
theorem Tk.Safe.said {T : Tk} (s : T.Safe) (w : Int) (h1 : (T.said.length : Int) - T.known < T.window) (h2 : T.last ≠ T.now) : Tk.Safe { T with said := T.said ++ [w], last := T.now } := by
  have hl := s.hl
  have b0 : T.bonus = 0 := by unfold Tk.bonus; rw [if_neg h2]
  have b1 : Tk.bonus { T with said := T.said ++ [w], last := T.now } = 1 := by unfold Tk.bonus; rw [if_pos rfl]
  have len : ((T.said ++ [w]).length : Int) = T.said.length + 1 := by simp
  have near : ∀ n t, T.Near n t → Tk.Near { T with said := T.said ++ [w], last := T.now } n t := fun n t z => by
    obtain ⟨z1, z2, z3⟩ := z
    refine ⟨z1, z2, ?_⟩
    show ((T.said ++ [w]).length : Int) ≤ n + T.window + (T.now - t) + Tk.bonus _
    rw [b1, len]
    rw [b0] at z3
    omega
  have okl : ∀ p, T.OkL p → Tk.OkL { T with said := T.said ++ [w], last := T.now } p := fun p h => by
    obtain ⟨l, t⟩ := p
    cases l with
    | ltr m x =>
      obtain ⟨n, a1, a2, a3, a4, a5⟩ := h
      exact ⟨n, a1, by show n < ((T.said ++ [w]).length : Int); omega, a3, by rw [saidAt_app T w n a1 a2]; exact a4, near _ _ a5⟩
    | ans m =>
      obtain ⟨n, a1, a2, a3, a5⟩ := h
      exact ⟨n, a1, a2, a3, near _ _ a5⟩
  refine ⟨s.mw, s.w1, s.l1, s.k0, s.kh, ?_, ?_, ?_, Int.le_refl _, fun p hp => ?_, fun p hp => okl p (s.r0 p hp), fun p hp => okl p (s.r1 p hp)⟩
  · show T.heard.length ≤ (T.said ++ [w]).length
    simp; omega
  · show T.heard = (T.said ++ [w]).take T.heard.length
    rw [List.take_append_of_le_length hl]
    exact s.hs
  · show ((T.said ++ [w]).length : Int) - T.known ≤ T.window
    omega
  · obtain ⟨c1, c2, c3⟩ := s.ear p hp
    exact ⟨c1, by show p.1 < ((T.said ++ [w]).length : Int); omega, by rw [saidAt_app T w p.1 (by omega) c2]; exact c3⟩
theorem Tk.Safe.ticked {T : Tk} (s : T.Safe) : T.tick.2.Safe := by
  have ln := s.ln
  have b0 : Tk.bonus T.tick.2 = 0 := by
    unfold Tk.bonus
    rw [if_neg]
    show T.last ≠ T.now + 1
    omega
  have bb : T.bonus ≤ 1 := by unfold Tk.bonus; split <;> omega
  have near : ∀ n t, T.Near n t → T.now + 1 - t < T.life → Tk.Near T.tick.2 n t := fun n t z q => by
    obtain ⟨z1, z2, z3⟩ := z
    refine ⟨by show t ≤ T.now + 1; omega, q, ?_⟩
    rw [b0]
    show (T.said.length : Int) ≤ n + T.window + (T.now + 1 - t) + 0
    omega
  have okl : ∀ p, T.OkL p → T.now + 1 - p.2 < T.life → Tk.OkL T.tick.2 p := fun p h q => by
    obtain ⟨l, t⟩ := p
    cases l with
    | ltr m x =>
      obtain ⟨n, a1, a2, a3, a4, a5⟩ := h
      exact ⟨n, a1, a2, a3, a4, near _ _ a5 q⟩
    | ans m =>
      obtain ⟨n, a1, a2, a3, a5⟩ := h
      exact ⟨n, a1, a2, a3, near _ _ a5 q⟩
  refine ⟨s.mw, s.w1, s.l1, s.k0, s.kh, s.hl, s.hs, s.win, by show T.last ≤ T.now + 1; omega, s.ear, fun p hp => ?_, fun p hp => ?_⟩
  · obtain ⟨h1, h2⟩ := List.mem_filter.mp hp
    exact okl p (s.r0 p h1) (by simpa using h2)
  · obtain ⟨h1, h2⟩ := List.mem_filter.mp hp
    exact okl p (s.r1 p h1) (by simpa using h2)
end Tw

/-! cells that nobody needs any more are dropped -/
namespace Tw
open PySem PySem.Spec PyProof.Rows L2
mutual
inductive Lt (n : Nat) : W → Prop
  | non : Lt n .non
  | bl (b : Bool) : Lt n (.bl b)
  | int (i : Int) : Lt n (.int i)
  | str (x : Str) : Lt n (.str x)
  | tup {xs : List W} (r : Lts n xs) : Lt n (.tup xs)
  | rl {xs : List W} (r : Lts n xs) : Lt n (.rl xs)
  | ref {m : Nat} (h : m < n) : Lt n (.ref m)
inductive Lts (n : Nat) : List W → Prop
  | nil : Lts n []
  | cons {w : W} {ws : List W} (h : Lt n w) (r : Lts n ws) : Lts n (w :: ws)
end
section
variable {K : PySem.W.Frag} {ad ad' : Nat → Option Addr} {H : Hp} {n : Nat}
mutual
theorem Lt.rel (ha : ∀ m, m < n → ∀ a, ad m = some a → ad' m = some a) : ∀ {w : W} {v : V}, Lt n w → RW K ad H w v → RW K ad' H w v
  | _, _, .non, .non => .non
  | _, _, .bl b, .bl _ => .bl b
  | _, _, .int i, .int _ => .int i
  | _, _, .str x, .str _ => .str x
  | _, _, .tup r, .tup h q => .tup h (Lts.rel ha r q)
  | _, _, .rl r, .rl h q => .rl h (Lts.rel ha r q)
  | _, _, .ref h, .ref q => .ref (ha _ h _ q)
theorem Lts.rel (ha : ∀ m, m < n → ∀ a, ad m = some a → ad' m = some a) : ∀ {w : List W} {v : List V}, Lts n w → RWs K ad H w v → RWs K ad' H w v
  | _, _, .nil, .nil => .nil
  | _, _, .cons h r, .cons q s => .cons (Lt.rel ha h q) (Lts.rel ha r s)
end
end
inductive PoLt (n : Nat) : Po → Prop
  | lst {xs : List W} (r : Lts n xs) : PoLt n (.lst xs)
  | ins {c : Nat} {fs : List W} (r : Lts n fs) : PoLt n (.ins c fs)
  | rcd {d : Nat} {fs : List W} (r : Lts n fs) : PoLt n (.rcd d fs)
  | dct {kvs : List (Int × W)} (r : ∀ p ∈ kvs, Lt n p.2) : PoLt n (.dct kvs)
def CellLt (n : Nat) : Cell → Prop
  | .pl o => PoLt n o
  | .fz xs => Lts n xs
  | .lm _ w => Lt n w
  | _ => True
def Closed (h : VH) : Prop := ∀ (i : Nat) (c : Cell), h[i]? = some c → CellLt h.length c
theorem kvR_lt {K : PySem.W.Frag} {ad ad' : Nat → Option Addr} {H : Hp} {n : Nat} (ha : ∀ m, m < n → ∀ a, ad m = some a → ad' m = some a) : ∀ {k : List (Int × W)} {k' : List (Key × V)}, (∀ p ∈ k, Lt n p.2) → kvR K ad H k k' → kvR K ad' H k k'
  | [], _, _, .nil => .nil
  | p :: r, _, h, .cons z t => .cons ⟨z.1, (h p List.mem_cons_self).rel ha z.2⟩ (kvR_lt ha (fun q hq => h q (List.mem_cons_of_mem _ hq)) t)
section
variable {G : Gm} {P : Program} {w : World} {K : PySem.W.Frag} {mg : Str → Option Value} {base : Heap}
theorem CellLt.rel {ad ad' : Nat → Option Addr} {H : Hp} {n : Nat} {l : List Addr} {c : Cell} (ha : ∀ m, m < n → ∀ a, ad m = some a → ad' m = some a) (h : CellLt n c) (r : CellR G ad H l c) : CellR G ad' H l c := by
  cases c with
  | pl o =>
    obtain ⟨a, e, r⟩ := r
    refine ⟨a, e, ?_⟩
    cases h with
    | lst q => obtain ⟨vs, e, s⟩ := r; exact ⟨vs, e, q.rel ha s⟩
    | ins q => obtain ⟨vs, dx, e, s, t⟩ := r; exact ⟨vs, dx, e, q.rel ha s, t⟩
    | rcd q => obtain ⟨vs, e, s, t⟩ := r; exact ⟨vs, e, q.rel ha s, t⟩
    | dct q => obtain ⟨vs, e, s⟩ := r; exact ⟨vs, e, kvR_lt ha q s⟩
  | tk T => exact r
  | hd T => exact r
  | fz xs => obtain ⟨a, vs, o, e1, e2, s⟩ := r; exact ⟨a, vs, o, e1, e2, Lts.rel ha h s⟩
  | tb j q => exact r
  | lm i w =>
    obtain ⟨f, r, pm, c', ctv, v0, e, e1, e2, e3, q, k⟩ := r
    exact ⟨f, r, pm, c', ctv, v0, e, e1, e2, e3, Lt.rel ha h q, fun ov z y => let ⟨v, a, b⟩ := k ov z y; ⟨v, a, Lt.rel ha h b⟩⟩
  | gone => exact r
/-- what a run leaves behind its wanted heap is forgotten -/
theorem FnV.trim {k : Nat} {f : Addr} {fd : FuncData} {ps : List Str} {F S : Fn} (Fn : FnV G P w K mg base k f fd ps F)
    (hS : ∀ ws h r h', S ws h = some (r, h') → ∃ g, F ws h = some (r, h' ++ g) ∧ h.length ≤ h'.length ∧ Closed h' ∧ (∀ w, r = .ok w → Lt h'.length w)) : FnV G P w K mg base k f fd ps S := by
  refine FnV.abs Fn fun ws h r h' e io H E => ?_
  obtain ⟨g, eF, hl, hc, hr⟩ := hS ws h r h' e
  refine ⟨ws, h, r, h' ++ g, io, eF, E, fun vs z => z, fun ioc' H' x' E' => ?_⟩
  have len : ioc'.length = h'.length + g.length := by rw [E'.len, List.length_append]
  have ad : ∀ m, m < h'.length → ∀ a, adr ioc' m = some a → adr (ioc'.take h'.length) m = some a := fun m hm a z => by
    unfold adr at z ⊢
    rw [List.getElem?_take_of_lt hm]
    exact z
  have sub : ∀ a, a ∈ (ioc'.take h'.length).flatten → a ∈ ioc'.flatten := fun a ha => by
    obtain ⟨l, hl, q⟩ := List.mem_flatten.mp ha
    exact List.mem_flatten.mpr ⟨l, List.mem_of_mem_take hl, q⟩
  refine ⟨ioc'.take h'.length, ⟨fun m a z => ?_, fun a ha => x'.own a (sub a ha), x'.keep, x'.trk, x'.tup⟩, ⟨?_, ?_, fun m c em => ?_⟩, ?_⟩
  · refine ad m ?_ a (x'.root m a z)
    have : m < io.length := by
      unfold adr at z
      cases q : io[m]? with
      | none => rw [q] at z; cases z
      | some l => exact (List.getElem?_eq_some_iff.mp q).1
    rw [E.len] at this
    omega
  · rw [List.length_take]; omega
  · have nd := E'.nd
    rw [← List.take_append_drop h'.length ioc', List.flatten_append] at nd
    exact (List.nodup_append.mp nd).1
  · have hm : m < h'.length := (List.getElem?_eq_some_iff.mp em).1
    obtain ⟨l, el, rl⟩ := E'.at_ m c (by rw [List.getElem?_append_left hm]; exact em)
    exact ⟨l, by rw [List.getElem?_take_of_lt hm]; exact el, (hc m c em).rel ad rl⟩
  · cases r with
    | ok a => exact fun v z => (hr a rfl).rel ad z
    | ex c => rfl
end
end Tw

/-! lists that are not changed any more: by value -/
namespace Tw
open PySem PySem.Spec PyProof.Rows L2
def FQ (Q : VK) : VK := fun v H => Q v H ∨ ∃ d xs, H d = some (.lst xs) ∧ ∀ od, Q v (upd H d (.frz od (.lst xs)))
def tFz (t : TE) : TE := fun σ H Q => t σ H (FQ Q)
section
variable {G : Gm} {X : Cx} {Wx : WX} {io : List (List Addr)} {h : VH} {H : Hp} {Q : VK}
theorem pe_fz {e : Expr} {t : TE} (h : PE X e t) : PE X e (tFz t) := by
  refine ⟨fun pins s σ H Q I hw => thn (h.run pins s σ H _ I hw) fun v s1 z => ?_⟩
  obtain ⟨x, H1, I2, r, q⟩ := z
  rcases q with q | ⟨d, xs, hd, q⟩
  · exact ⟨x, H1, I2, r, q⟩
  · obtain ⟨od, I3⟩ := I2.lock hd trivial
    exact ⟨_, _, I3, r, q od⟩
theorem upd_upd {H : Hp} {p : Addr} {o u : HO} : upd (upd H p o) p u = upd H p u := by
  funext b
  by_cases q : b = p
  · subst q; rw [upd_same, upd_same]
  · rw [upd_ne q, upd_ne q, upd_ne q]
theorem PostW.newR {xs : List W} {vs : List V} {p : Addr} (z : PostW G io H (.rl xs) h Q) (E : Emb G io h H) (np : H p = none) (r : RWs G.K (adr io) H xs vs) : FQ Q (.ref p) (upd H p (.lst vs)) := by
  refine .inr ⟨p, vs, upd_same, fun od => ?_⟩
  rw [upd_upd]
  obtain ⟨E1, x1⟩ := E.side (o := .frz od (.lst vs)) np
  exact z _ _ x1 E1 _ (.rl (.inl ⟨od, upd_same⟩) (r.ext x1))
/-! ### displays -/
variable {e : Expr} {es : List Expr} {f : FE} {fs : List FE} {pos : Pos} {a b : Expr} {fa fb : FE}
@[simp] def fLstR (fs : List FE) : FE := fun fm h => bindM (fAll fs fm h) fun ws h1 => if ws.length ≤ sizeLine then some (.ok (.rl ws), h1) else none
theorem se_lstR (ha : SA G X Wx es (fAll fs)) : SE G X Wx (.List es pos) (fLstR fs) := by
  refine PEw (pe_fz (pe_lst ha)) fun s H Q q => ?_
  obtain ⟨fm, h, r, h', io, e, E, S, p⟩ := q
  refine cG_step E S e p fun a h1 e1 io1 H1 v x1 E1 rv => ?_
  split at e1
  · cases e1
    refine ⟨by rw [← rv.length]; assumption, fun q nq => ?_⟩
    exact PostW.newR (fun io' H' x' E' => p io' H' (x1.trans x') E') E1 nq rv
  · cases e1
/-- [..] * k -/
@[simp] def fRepR (fs : List FE) (fk : FE) : FE := fun fm h => bindM (fAll fs fm h) fun ws h1 => if ws.length ≤ sizeLine then bindM (fk fm h1) fun k h2 => (match k with
  | .int k => if 0 ≤ k ∧ k < 2 ^ 63 ∧ ws.length * k.toNat ≤ sizeLine then some (.ok (.rl (List.replicate k.toNat ws).flatten), h2) else none
  | _ => none) else none
theorem se_repR {p1 : Pos} (ha : SA G X Wx es (fAll fs)) (hb : SE G X Wx b fb) : SE G X Wx (.BinOp (.List es p1) .Mult b pos) (fRepR fs fb) := by
  refine PEw (pe_fz (pe_op op_rep (pe_lst ha) hb)) fun s H Q q => ?_
  obtain ⟨fm, h, r, h', io, e, E, S, p⟩ := q
  refine cG_step E S e p fun a h1 e1 io1 H1 v x1 E1 rv => ?_
  split at e1
  · refine ⟨by rw [← rv.length]; assumption, fun q nq => ?_⟩
    obtain ⟨E2, x2⟩ := E1.side (o := .lst v) nq
    have hq : q ∉ io1.flatten := E1.fresh nq
    refine cG_step E2 (S.ext (x1.trans x2)) e1 (p.ext (x1.trans x2)) fun k h2 e2 io2 H2 u x3 E3 ru => ?_
    split at e2
    · split at e2
      · rename_i hk
        cases e2; cases ru
        have hv : H2 q = some (.lst v) := x3.keep q _ upd_same hq
        refine ⟨q, _, v, rfl, rfl, hv, by omega, hk.2.1, by rw [← rv.length]; exact hk.2.2, fun d nd => ?_⟩
        exact PostW.newR (fun io' H' x' E' => p io' H' (((x1.trans x2).trans x3).trans x') E') E3 nd (((rv.ext x2).ext x3).rep _)
      · cases e2
    · cases e2
  · cases e1
/-! ### + -/
def rCatR (K : PySem.W.Frag) : R2 := fun x y H Q => ∃ l b xs zs, x = .ref l ∧ y = .ref b ∧ SqL K H l xs ∧ SqL K H b zs ∧ xs.length + zs.length ≤ sizeLine ∧ ∀ p, H p = none → Q (.ref p) (upd H p (.lst (xs ++ zs)))
theorem op_catR : OpR X (binaryOp .Add) (rCatR X.K) := by
  intro pins s σ H x y v u Q I rx ry h
  obtain ⟨l, b, xs, zs, rfl, rfl, hH, hB, hz, q⟩ := h
  cases rx
  cases ry
  obtain ⟨its, r, ⟨⟨cls, dd, data, sl⟩, n, e, hc, hd, hdt⟩, hl⟩ := I.list hH
  obtain ⟨its2, r2, ⟨⟨cls2, dd2, data2, sl2⟩, n2, e2, hc2, hd2, hdt2⟩, hl2⟩ := I.list hB
  simp only at hc hd hdt hc2 hd2 hdt2
  subst hc hd hdt hc2 hd2 hdt2
  have ea : its.toArray ++ its2.toArray = (its ++ its2).toArray := by simp
  have l1 := r.length
  have l2 := r2.length
  refine concat_meets ⟨_, e, rfl⟩ ⟨_, e2, rfl⟩ noFill_list_add seq_list_add PySem.F.slot_list_add PySem.F.entry_list_add (PySem.F.args_list_add_2 _ _) (list_addW l b its.toArray its2.toArray n n2 none none sl sl2 (by rw [List.size_toArray, List.size_toArray]; omega)) ⟨e, e2, ?_⟩
  rw [ea]
  exact ⟨.ref _, _, I.lnew (t' := s.toks) (r.append r2) (by rw [List.length_append]; omega), rfl, q _ I.fresh⟩
def R2.fz (r : R2) : R2 := fun x y H Q => r x y H (FQ Q)
theorem R2.up {r : R2} (hr : ∀ x y H Q Q', (∀ v H, Q v H → Q' v H) → r x y H Q → r x y H Q') {x y : V} {H : Hp} {Q : VK} (h : r x y H Q) : R2.fz r x y H Q := hr _ _ _ _ _ (fun _ _ z => .inl z) h
@[simp] def gAddR : G2 := fun a b h => match a, b with
  | .int i, .int j => some (.int (i + j), h)
  | .str i, .str j => if i.length + j.length ≤ sizeLine then some (.str (i ++ j), h) else none
  | .tup i, .tup j => if i ≠ [] ∧ i.length + j.length ≤ sizeLine then some (.tup (i ++ j), h) else none
  | a, b => match lstAt h a, lstAt h b with
    | some xs, some ys => if xs.length + ys.length ≤ sizeLine then some (.rl (xs ++ ys), h) else none
    | _, _ => none
def rAddR (K : PySem.W.Frag) : R2 := fun x y H Q => rAddW K x y H Q ∨ rCatR K x y H Q
theorem op_addR : OpR X (binaryOp .Add) (rAddR X.K) := op_addW.or op_catR
def Sim2F (G : Gm) (r : R2) (g : G2) : Prop := ∀ a b h w h', g a b h = some (w, h') → ∀ io H x y Q, Emb G io h H → RW G.K (adr io) H a x → RW G.K (adr io) H b y → PostW G io H w h' Q → r x y H (FQ Q)
theorem sim_addR : Sim2F G (rAddR G.K) gAddR := by
  intro a b h w h' e io H x y Q E ra rb p
  unfold gAddR at e
  split at e
  · cases e; cases ra; cases rb
    exact .inl (.inl ⟨_, _, rfl, rfl, .inl (p.here E (.int _))⟩)
  · split at e
    · cases e; cases ra; cases rb
      exact .inl (.inr (.inl ⟨_, _, rfl, rfl, by assumption, .inl (p.here E (.str _))⟩))
    · cases e
  · split at e
    · rename_i hc
      cases e
      cases ra with
      | tup ha ra =>
        cases rb with
        | tup hb rb =>
          refine .inl (.inr (.inr (.inl ⟨_, _, _, _, rfl, rfl, .inl (.inl ha), .inl (.inl hb), ?_, ?_, fun z => .inl ?_, fun _ q nq => .inl (p.tup E nq (ra.append rb))⟩)))
          · intro z
            subst z
            exact hc.1 (List.eq_nil_of_length_eq_zero (by rw [ra.length]; rfl))
          · rw [← ra.length, ← rb.length]; exact hc.2
          · subst z
            have hz := List.eq_nil_of_length_eq_zero (by rw [rb.length]; rfl)
            subst hz
            rw [List.append_nil] at p
            exact p.here E (.tup ha ra)
    · cases e
  · split at e
    · rename_i e1 e2
      split at e
      · cases e
        obtain ⟨a1, vs1, rfl, h1, r1⟩ := lstAt_r E e1 ra
        obtain ⟨a2, vs2, rfl, h2, r2⟩ := lstAt_r E e2 rb
        exact .inr ⟨_, _, _, _, rfl, rfl, h1, h2, by rw [← r1.length, ← r2.length]; assumption, fun q nq => p.newR E nq (r1.append r2)⟩
      · cases e
    · cases e
theorem op_readF {r : R2} {g : G2} {fa fb : FE} (sm : Sim2F G r g) {s : L2.St} {H : Hp} {Q : VK} (q : cE G Wx (fBin g fa fb) s H Q) : tFz (tOp r (cE G Wx fa) (cE G Wx fb)) s H Q := by
  obtain ⟨fm, h, r, h', io, e, E, S, p⟩ := q
  refine cG_step E S e p fun a h1 e1 io1 H1 v x1 E1 rv => ?_
  refine cG_step E1 (S.ext x1) e1 (p.ext x1) fun b h2 e2 io2 H2 u x2 E2 ru => ?_
  obtain ⟨w, e3, rfl⟩ := retM_cases e2
  exact sm _ _ _ _ _ e3 io2 H2 v u Q E2 (rv.ext x2) ru fun io' H' x' E' => p io' H' ((x1.trans x2).trans x') E'
theorem se_opF {op : Operator} {r : R2} {g : G2} (ho : OpR X (binaryOp op) r) (sm : Sim2F G r g) (ha : SE G X Wx a fa) (hb : SE G X Wx b fb) : SE G X Wx (.BinOp a op b pos) (fBin g fa fb) :=
  PEw (pe_fz (pe_op ho ha hb)) fun _ _ _ q => op_readF sm q
@[simp] def gAddO : G2 := fun a b h => match a, b with
  | .int i, .int j => some (.int (i + j), h)
  | a, b => match lstAt h a, lstAt h b with
    | some xs, some ys => if xs.length + ys.length ≤ sizeLine then some (.ref h.length, h ++ [.pl (.lst (xs ++ ys))]) else none
    | _, _ => none
theorem sim_addO : Sim2 G (rAddR G.K) gAddO := by
  intro a b h w h' e io H x y Q E ra rb p
  unfold gAddO at e
  split at e
  · cases e; cases ra; cases rb
    exact .inl (.inl ⟨_, _, rfl, rfl, p.here E (.int _)⟩)
  · split at e
    · rename_i e1 e2
      split at e
      · cases e
        obtain ⟨a1, vs1, rfl, h1, r1⟩ := lstAt_r E e1 ra
        obtain ⟨a2, vs2, rfl, h2, r2⟩ := lstAt_r E e2 rb
        exact .inr ⟨_, _, _, _, rfl, rfl, h1, h2, by rw [← r1.length, ← r2.length]; assumption, fun q nq => p.newL E nq (r1.append r2)⟩
      · cases e
    · cases e
/-! ### slices -/
@[simp] def gSlR : G3 := fun a l u h => match a with
  | .tup xs => if HT.sIx xs.length 0 l = 0 ∧ HT.sIx xs.length xs.length u = xs.length then none else some (.tup (cutW xs l u), h)
  | .str z => if z.length ≤ sizeLine then some (.str (cutS z l u), h) else none
  | w => match lstAt h w with
    | some xs => some (.rl (cutW xs l u), h)
    | none => none
theorem se_slR {lo hi : Option Expr} {fl fu : FO} {p2 : Pos} (hK : X.K = G.K) (he : SE G X Wx e f) (hl : SO G X Wx lo fl) (hu : SO G X Wx hi fu) :
    SE G X Wx (.Subscript e (.Slice lo hi none p2) pos) (fSl gSlR f fl fu) := by
  refine PEw (pe_fz (pe_slice sl_w he hl hu)) fun s H Q q => ?_
  obtain ⟨fm, h, r, h', io, e, E, S, p⟩ := q
  refine cG_step E S e p fun a h1 e1 io1 H1 v x1 E1 rv => ?_
  refine cG_step E1 (S.ext x1) e1 (p.ext x1) fun b h2 e2 io2 H2 u x2 E2 ru => ?_
  cases (show b = u from ru)
  refine cG_step E2 (S.ext (x1.trans x2)) e2 (p.ext (x1.trans x2)) fun c h3 e3 io3 H3 w x3 E3 rw_ => ?_
  cases (show c = w from rw_)
  obtain ⟨w', e4, rfl⟩ := retM_cases e3
  have rv3 := (rv.ext x2).ext x3
  have p3 : PostW G io3 H3 w' h' Q := fun io' H' x' E' => p io' H' (((x1.trans x2).trans x3).trans x') E'
  rw [hK]
  unfold gSlR at e4
  split at e4
  · split at e4
    · cases e4
    · rename_i hc
      cases e4
      cases rv3 with
      | tup ha rs =>
        refine .inr (.inl ⟨_, _, rfl, .inl (.inl ha), ?_, fun q nq => .inl (p3.tup E3 nq (cutW_r rs _ _))⟩)
        rw [← rs.length]
        exact hc
  · split at e4
    · cases e4; cases rv3
      exact .inr (.inr ⟨_, rfl, by assumption, .inl (p3.here E3 (.str _))⟩)
    · cases e4
  · split at e4
    · rename_i xs e5
      cases e4
      obtain ⟨a, vs, rfl, hv, rv⟩ := lstAt_r E3 e5 rv3
      exact .inl ⟨a, vs, rfl, hv, fun q nq => p3.newR E3 nq (cutW_r rv _ _)⟩
    · cases e4
/-! ### list(..) -/
@[simp] def gListR : List W → VH → Option (W × VH) := fun ws h => match ws with
  | [w] => (match seqAt h w with
    | some xs => some (.rl xs, h)
    | none => none)
  | _ => none
def SimAF (G : Gm) (r : List V → Hp → VK → Prop) (g : List W → VH → Option (W × VH)) : Prop := ∀ a h w h', g a h = some (w, h') → ∀ io H x Q, Emb G io h H → RWs G.K (adr io) H a x → PostW G io H w h' Q → r x H (FQ Q)
theorem cb_readF {r : List V → Hp → VK → Prop} {g : List W → VH → Option (W × VH)} (sm : SimAF G r g) {s : L2.St} {H : Hp} {Q : VK} (q : cE G Wx (fCB g fs) s H Q) : tFz (tCB r (cA G Wx (fAll fs))) s H Q := by
  obtain ⟨fm, h, r, h', io, e, E, S, p⟩ := q
  refine cG_step E S e p fun a h1 e1 io1 H1 v x1 E1 rv => ?_
  obtain ⟨w, e3, rfl⟩ := retM_cases e1
  exact sm _ _ _ _ e3 io1 H1 v Q E1 rv fun io' H' x' E' => p io' H' (x1.trans x') E'
theorem se_ctF {T : String} {x : Str} {p : Pos} {r : List V → Hp → VK → Prop} {g : List W → VH → Option (W × VH)} (hc : CallR X (.type T) r) (sm : SimAF G r g) (hg : Gl X x) (hm : X.mg x = none) (hv : bootBuiltins x = some (.type T)) (ha : SA G X Wx (e :: es) (fAll fs)) (hn : x ≠ "__name__" := by decide) (hdb : (x == ("__debug__" : Str)) = false := by decide)
    (he : starEach (e :: es) X.env = (false, eval e X.env) :: starEach es X.env := by rfl) (hpl : (backTo pos (starEach es X.env)).any (·.1) = false := by rfl) : SE G X Wx (.Call (.Name x p) (e :: es) [] pos) (fCB g fs) :=
  PEw (pe_fz (pe_callTy hc hg hm hv ha hn hdb he hpl)) fun _ _ _ q => cb_readF sm q
theorem sim_listR : SimAF G (fun xs H Q => ∃ p ys, xs = [.ref p] ∧ (SqL G.K H p ys ∨ SqT G.K H p ys) ∧ ∀ l, H l = none → Q (.ref l) (upd H l (.lst ys))) gListR := by
  intro a h w h' e io H x Q E ra p
  unfold gListR at e
  split at e
  · split at e
    · rename_i xs e1
      cases e
      obtain ⟨v, rfl, rv⟩ := rws1 ra
      obtain ⟨b, vs, rfl, hv, rvs⟩ := seqAt_r E e1 rv
      exact ⟨b, vs, rfl, hv, fun l nl => p.newR E nl rvs⟩
    · cases e
  · cases e
@[simp] def fLrg2R (fa fb : FE) : FE := fun fm h => bindM (fa fm h) fun a h1 => bindM (fb fm h1) fun b h2 => match a, b with
  | .int i, .int j => if rgOk i j = true then some (.ok (.rl (rgW i j)), h2) else none
  | _, _ => none
@[simp] def fLrg1R (fa : FE) : FE := fun fm h => bindM (fa fm h) fun a h1 => match a with
  | .int j => if rgOk 0 j = true then some (.ok (.rl (rgW 0 j)), h1) else none
  | _ => none
theorem se_lrg2R {p p1 p2 : Pos} (hc : X.calm = true) (hg : Gl X "list") (hm : X.mg "list" = none) (hg2 : Gl X "range") (hm2 : X.mg "range" = none) (ha : SE G X Wx a fa) (hb : SE G X Wx b fb)
    (na1 : starEach [a, b] X.env = (false, eval a X.env) :: starEach [b] X.env := by rfl) (nb1 : starEach [b] X.env = (false, eval b X.env) :: starEach [] X.env := by rfl) (hp1 : (backTo p2 (starEach [b] X.env)).any (·.1) = false := by rfl)
    (na : starEach [.Call (.Name "range" p1) [a, b] [] p2] X.env = (false, eval (.Call (.Name "range" p1) [a, b] [] p2) X.env) :: starEach [] X.env := by rfl) :
    SE G X Wx (.Call (.Name "list" p) [.Call (.Name "range" p1) [a, b] [] p2] [] pos) (fLrg2R fa fb) := by
  refine PEw (pe_fz (pe_listRg hc hg hm (prg_2 hg2 hm2 ha hb na1 nb1 hp1) na)) fun s H Q q => ?_
  obtain ⟨fm, h, r, h', io, e, E, S, p⟩ := q
  refine cG_step E S e p fun a h1 e1 io1 H1 v x1 E1 rv => ?_
  refine cG_step E1 (S.ext x1) e1 (p.ext x1) fun b h2 e2 io2 H2 u x2 E2 ru => ?_
  split at e2
  · split at e2
    · cases e2; cases rv; cases ru
      exact ⟨_, _, rfl, rfl, rgOk_ok (by assumption), fun q nq => PostW.newR (fun io' H' x' E' => p io' H' ((x1.trans x2).trans x') E') E2 nq (rgW_r _ _)⟩
    · cases e2
  · cases e2
theorem se_lrg1R {p p1 p2 : Pos} (hc : X.calm = true) (hg : Gl X "list") (hm : X.mg "list" = none) (hg2 : Gl X "range") (hm2 : X.mg "range" = none) (ha : SE G X Wx a fa)
    (na1 : starEach [a] X.env = (false, eval a X.env) :: starEach [] X.env := by rfl)
    (na : starEach [.Call (.Name "range" p1) [a] [] p2] X.env = (false, eval (.Call (.Name "range" p1) [a] [] p2) X.env) :: starEach [] X.env := by rfl) :
    SE G X Wx (.Call (.Name "list" p) [.Call (.Name "range" p1) [a] [] p2] [] pos) (fLrg1R fa) := by
  refine PEw (pe_fz (pe_listRg hc hg hm (prg_1 hg2 hm2 ha na1) na)) fun s H Q q => ?_
  obtain ⟨fm, h, r, h', io, e, E, S, p⟩ := q
  refine cG_step E S e p fun a h1 e1 io1 H1 v x1 E1 rv => ?_
  split at e1
  · split at e1
    · cases e1; cases rv
      exact ⟨_, rfl, rgOk_ok (by assumption), fun q nq => PostW.newR (fun io' H' x' E' => p io' H' (x1.trans x') E') E1 nq (rgW_r _ _)⟩
    · cases e1
  · cases e1
/-! ### comprehensions -/
def lcR (src : Sc) (i0 : Nat) (ft : FT) (fe : FE) (fm : Fm) : Nat → Nat → List W → VH → Option (List W × VH)
  | 0, _, _, _ => none
  | k + 1, i, acc, h => match src.nx h i with
    | none => none
    | some none => some (acc, h)
    | some (some w) => match ft (fm.set i0 (some w)) h with
      | some (.ok b, h1) => if b = true then (match fe (fm.set i0 (some w)) h1 with
        | some (.ok y, h2) => if acc.length < sizeLine then lcR src i0 ft fe fm k (i + 1) (acc ++ [y]) h2 else none
        | _ => none) else lcR src i0 ft fe fm k (i + 1) acc h1
      | _ => none
@[simp] def fLcR (fi : FI) (i0 : Nat) (vs : List Nat) (ft : FT) (fe : FE) : FE := fun fm h => bindM (fi fm h) fun src h1 => match lcR src i0 ft fe (wipeV fm vs) (src.cnt h1 + 1) 0 [] h1 with
  | some (xs, h2) => some (.ok (.rl xs), h2)
  | none => none
theorem Emb.aside {D : Addr} {u o : HO} (E : Emb G io h H) (hD : H D = some u) (mu : Mt u) (nD : D ∉ io.flatten) : Emb G io h (upd H D o) := by
  refine ⟨E.len, E.nd, fun n c e => ?_⟩
  obtain ⟨l, e1, r⟩ := E.at_ n c e
  exact ⟨l, e1, r.mono (fun _ _ z => z) (Stay.some hD mu) fun a ha v z => by rw [upd_ne (fun q => nD (by subst q; exact mem_flat e1 ha))]; exact z⟩
theorem Ext.aside {io io' : List (List Addr)} {H H' : Hp} {D : Addr} {o : HO} (x : Ext io H io' H') (hD : H D = none) : Ext io H io' (upd H' D o) := by
  refine ⟨x.root, x.own, fun a u e n => ?_, fun a e => ?_, fun a u e n => ?_⟩
  · rw [upd_ne (ne_of_none e hD)]; exact x.keep a u e n
  · by_cases q : a = D
    · subst q; exact hD
    · rw [upd_ne q] at e; exact x.trk a e
  · rw [upd_ne (ne_of_none e hD)]; exact x.tup a u e n
theorem Ext.away {io io' : List (List Addr)} {H H' : Hp} {D : Addr} {u : HO} (x : Ext io H io' H') (hD : H D = some u) (nD : D ∉ io.flatten) : H' D = some u ∧ D ∉ io'.flatten := by
  refine ⟨x.keep D u hD nD, fun z => ?_⟩
  rcases x.own D z with q | q
  · exact nD q
  · rw [hD] at q; cases q
theorem lc_readF {fi : FI} {i0 : Nat} {vs : List Nat} {ft : FT} {fe : FE} (hi0 : i0 ∈ vs) (fr : ∀ v ∈ vs, G.Free v) {s : L2.St} {H : Hp} {Q : VK} (q : cE G Wx (fLcR fi i0 vs ft fe) s H Q) : tFz (tLc (cI G Wx fi) (gName i0) (cT G WF ft) (cE G WF fe) vs) s H Q := by
  obtain ⟨fm, h, r, h', io, e, E, S, p⟩ := q
  refine cG_step E S e p fun src h1 e1 io1 H1 J x1 E1 rJ => ?_
  intro D nD
  split at e1
  · rename_i xs h2 e2
    cases e1
    obtain ⟨E2, x2⟩ := E1.side (o := .lst []) nD
    refine ⟨fun i m Hc => ∃ hc ioc acc us, lcR src i0 ft fe (wipeV fm vs) m i acc hc = some (xs, h') ∧ Emb G ioc hc Hc ∧ Ext io1 H1 ioc Hc ∧ Hc D = some (.lst us) ∧ RWs G.K (adr ioc) Hc acc us ∧ D ∉ ioc.flatten, ⟨_, _, _, _, _, e2, E2, x2, upd_same, .nil, E1.fresh nD⟩, ?_⟩
    rintro i m Hc ⟨hc, ioc, acc, us, ec, Ec, xc, hD, ru, fD⟩
    cases m with
    | zero => simp [lcR] at ec
    | succ k =>
      have rJc := rJ.ext xc
      unfold lcR at ec
      split at ec
      · cases ec
      · rename_i en
        cases ec
        refine .inl ⟨rJc.stop Ec en, .inr ⟨D, us, hD, fun od => ?_⟩⟩
        exact p ioc _ (x1.trans (xc.aside nD)) (Ec.aside hD trivial fD) _ (.rl (.inl ⟨od, upd_same⟩) (ru.wr hD trivial))
      · rename_i w en
        obtain ⟨g1, g2⟩ := rJc.go Ec en
        refine .inr ⟨g1, _, fun H' z => ⟨k, Nat.lt_succ_self k, z⟩, fun x H' y => ?_⟩
        obtain ⟨xa, Ea, ra⟩ := g2 x H' y
        have S1 : RSt G (adr ioc) H' ((wipeV fm vs).set i0 (some w)) ((wipe s vs).set i0 (some x)) := (wipe_rel (S.ext ((x1.trans xc).trans xa)) vs fr).set (fr _ hi0) ra
        obtain ⟨hDa, fDa⟩ := xa.away hD fD
        refine ⟨wipe_set hi0, ?_⟩
        split at ec
        · rename_i b h3 e3
          refine ⟨_, hc, _, h3, ioc, e3, Ea, S1, fun io3 H3 x3 E3 b' hb' => ?_⟩
          cases (show b = b' from hb')
          obtain ⟨hD3, fD3⟩ := x3.away hDa fDa
          split at ec
          · rename_i hb
            rw [if_pos hb]
            split at ec
            · rename_i y1 h4 e4
              refine ⟨_, h3, _, h4, io3, e4, E3, S1.ext x3, fun io4 H4 x4 E4 y2 ry => ?_⟩
              split at ec
              · rename_i hl
                obtain ⟨hD4, fD4⟩ := x4.away hD3 fD3
                have ru4 := ((ru.ext xa).ext x3).ext x4
                exact ⟨us, hD4, by rw [← ru.length]; exact hl, _, _, _, _, ec, E4.aside hD4 trivial fD4, (((xc.trans xa).trans x3).trans x4).aside nD, upd_same, (ru4.append (.cons ry .nil)).wr hD4 trivial, fD4⟩
              · cases ec
            · cases ec
          · rename_i hb
            rw [if_neg hb]
            exact ⟨h3, io3, acc, us, ec, E3, (xc.trans xa).trans x3, hD3, (ru.ext xa).ext x3, fD3⟩
        · cases ec
  · cases e1
theorem se_lcR {elt iter : Expr} {ifs : List Expr} {scope : Scope} {fi : FI} {i0 : Nat} {vs : List Nat} {ft : FT} {fe : FE} {x : Str} {px : Pos} (hc : X.calm = true) (hN : X.N.Nodup) (own : List (Str × Nat)) (hvs : own.map (·.2) = vs) (hi : SI G X Wx (.Name x px) iter fi) (ok : BlkOk X.N X.env.scope scope own) (hi0 : i0 ∈ vs)
    (hg : ∀ (s : Shared) (H : Hp) (C : Addr) (cl : List (Str × Addr)) (fp : List Addr), PG (X.blk s H scope (compEnvC scope cl C X.env) fp) (.Name x px) (gName i0)) (ht : ∀ (s : Shared) (H : Hp) (C : Addr) (cl : List (Str × Addr)) (fp : List Addr), PTs (X.blk s H scope (compEnvC scope cl C X.env) fp) ifs (cT G WF ft))
    (he : ∀ (s : Shared) (H : Hp) (C : Addr) (cl : List (Str × Addr)) (fp : List Addr), SE G (X.blk s H scope (compEnvC scope cl C X.env) fp) WF elt fe) (hs : ∀ x, foldedSetIterable iter X.env x = pure x := by intro _; rfl) (fr : ∀ v ∈ vs, G.Free v := by first | exact fun _ _ _ z => nomatch z | (intro v hv a z; simp at hv z; omega)) :
    SE G X Wx (.ListComp elt [⟨.Name x px, iter, ifs, 0⟩] scope pos) (fLcR fi i0 vs ft fe) := PEw (pe_fz (pe_lc hc hN hi ok hg ht he hs)) fun _ _ _ q => by
  rw [hvs]
  exact lc_readF hi0 fr q
/-! ### a list of our own is frozen -/
@[simp] def fFz (f : FE) : FE := fun fm h => bindM (f fm h) fun w h1 => match w with
  | .ref n => (match h1[n]? with
    | some (.pl (.lst xs)) => some (.ok (.rl xs), h1.set n (.fz xs))
    | some (.fz xs) => some (.ok (.rl xs), h1)
    | _ => none)
  | _ => none
theorem Emb.freeze {n : Nat} {xs : List W} {vs : List V} {a : Addr} {o : Obj} (E : Emb G io h H) (e : h[n]? = some (.pl (.lst xs))) (ei : io[n]? = some [a]) (hv : H a = some (.lst vs)) (r : RWs G.K (adr io) H xs vs) : Emb G io (h.set n (.fz xs)) (upd H a (.frz o (.lst vs))) ∧ Ext io H io (upd H a (.frz o (.lst vs))) := by
  have hm : a ∈ io.flatten := mem_flat ei List.mem_cons_self
  have kt : Stay H (upd H a (.frz o (.lst vs))) := Stay.some hv trivial
  refine ⟨⟨by simp [E.len], E.nd, fun m c em => ?_⟩, ⟨fun _ _ e => e, fun _ m => .inl m, fun b v e nm => ?_, fun b e => ?_, kt⟩⟩
  · by_cases q : m = n
    · subst q
      have hl : m < h.length := (List.getElem?_eq_some_iff.mp e).1
      rw [List.getElem?_set_self hl] at em
      cases em
      exact ⟨[a], ei, a, vs, o, rfl, upd_same, r.mono (fun _ _ z => z) kt⟩
    · rw [List.getElem?_set_ne (Ne.symm q)] at em
      obtain ⟨l, e1, rl⟩ := E.at_ m c em
      refine ⟨l, e1, rl.mono (fun _ _ z => z) kt fun b hb v z => ?_⟩
      rw [upd_ne]; exact z
      intro y; subst y
      exact nodup_flat_ne E.nd e1 ei q hb List.mem_cons_self
  · rw [upd_ne]; exact e
    intro y; subst y; exact nm hm
  · by_cases q : b = a
    · subst q; rw [upd_same] at e; cases e
    · rw [upd_ne q] at e; exact e
theorem se_fz (he : SE G X Wx e f) : SE G X Wx e (fFz f) := by
  refine PEw (pe_fz he) fun s H Q q => ?_
  obtain ⟨fm, h, r, h', io, e, E, S, p⟩ := q
  refine cG_step E S e p fun a h1 e1 io1 H1 v x1 E1 rv => ?_
  split at e1
  · rename_i n
    split at e1
    · rename_i xs hn
      cases e1
      obtain ⟨a, rfl, ei, vs, hv, rvs⟩ := E1.ref hn rv
      refine .inr ⟨a, vs, hv, fun od => ?_⟩
      obtain ⟨E2, x2⟩ := E1.freeze (o := od) hn ei hv rvs
      exact p io1 _ (x1.trans x2) E2 _ (.rl (.inl ⟨od, upd_same⟩) (rvs.ext x2))
    · rename_i xs hn
      cases e1
      obtain ⟨l, e1, a, vs, o, e2, hv, rv2⟩ := E1.at_ n _ hn
      subst e2
      cases rv with
      | ref z =>
        unfold adr at z
        rw [e1] at z
        cases z
        exact .inl (p io1 _ x1 E1 _ (.rl (.inl ⟨o, hv⟩) rv2))
    · cases e1
  · cases e1
theorem ps_fz {st : Stmt} {t : TS} (h : PS X st t) : PS X st (fun D σ H => t ⟨fun σ' H' => D.nx σ' H' ∨ ∃ d xs, H' d = some (.lst xs) ∧ ∀ od, D.nx σ' (upd H' d (.frz od (.lst xs))), D.rt, D.bk, D.ct⟩ σ H) := by
  refine ⟨fun pins s σ H D I hw => thn (h.run pins s σ H _ I hw) fun f s1 q => ?_⟩
  cases f with
  | next =>
    obtain ⟨σ', H', I2, q⟩ := q
    rcases q with q | ⟨d, xs, hd, q⟩
    · exact ⟨σ', H', I2, q⟩
    · obtain ⟨od, I3⟩ := I2.lock hd trivial
      exact ⟨σ', _, I3, q od⟩
  | brk => exact q
  | cont => exact q
  | ret v => exact q
theorem ss_setLcR (i : Nat) {x : Str} {py : Pos} {elt iter : Expr} {ifs : List Expr} {scope : Scope} {pos spos : Pos} {fi : FI} {i0 : Nat} {vs : List Nat} {ft : FT} {fe : FE} {y : Str} {px : Pos} (hc : X.calm = true) (hN : X.N.Nodup) (hy : X.N[i]? = some y) (hyl : X.env.scope.names.lookup y = some .local)
    (hsw : swapsWith (.ListComp elt [⟨.Name x px, iter, ifs, 0⟩] scope pos) (some (.Name y py)) spos.line X.env = pure true) (own : List (Str × Nat)) (hvs : own.map (·.2) = vs) (hi : SI G X Wx (.Name x px) iter fi) (ok : BlkOk X.N X.env.scope scope own) (hi0 : i0 ∈ vs)
    (hg : ∀ (s : Shared) (H : Hp) (C : Addr) (cl : List (Str × Addr)) (fp : List Addr), PG (X.blk s H scope (compEnvC scope cl C X.env) fp) (.Name x px) (gName i0)) (ht : ∀ (s : Shared) (H : Hp) (C : Addr) (cl : List (Str × Addr)) (fp : List Addr), PTs (X.blk s H scope (compEnvC scope cl C X.env) fp) ifs (cT G WF ft))
    (he : ∀ (s : Shared) (H : Hp) (C : Addr) (cl : List (Str × Addr)) (fp : List Addr), SE G (X.blk s H scope (compEnvC scope cl C X.env) fp) WF elt fe) (hs : ∀ x, foldedSetIterable iter X.env x = pure x := by intro _; rfl) (frv : ∀ v ∈ vs, G.Free v := by first | exact fun _ _ _ z => nomatch z | (intro v hv a z; simp at hv z; omega)) (fr : G.Free i := by first | exact fun _ z => nomatch z | (intro _ z; simp at z)) :
    SS G X Wx (.Assign [.Name y py] (.ListComp elt [⟨.Name x px, iter, ifs, 0⟩] scope pos) spos) (fSet i (fLcR fi i0 vs ft fe)) := PSw (ps_fz (ps_setLc hc hN hy hyl hsw hi ok hg ht he hs)) fun D s H q => by
  rw [hvs]
  obtain ⟨fm, h, fl, fm', h', io, e, E, S, p⟩ := q
  refine lc_readF (Q := fun v H1 => D.nx (s.set i (some v)) H1) hi0 frv ?_
  refine cS_step E S e p fun a h1 e1 io1 H1 v x1 E1 rv => ?_
  cases e1
  exact p io1 H1 _ x1 E1 ((S.ext x1).set fr rv)
/-! ### what a run leaves behind is forgotten -/
section
variable {P : Program} {w : World} {K : PySem.W.Frag} {mg : Str → Option Value} {base : Heap}
def ResLt (n : Nat) : Rs W → Prop
  | .ok w => Lt n w
  | .ex _ => True
def TrimOk (h h' : VH) (r : Rs W) : Prop := h.length ≤ h'.length ∧ ResLt h.length r ∧ ∀ (i : Nat) (c : Cell), i < h.length → h'[i]? = some c → h[i]? = some c ∨ CellLt h.length c
open Classical in
noncomputable def trimC (F : Fn) : Fn := fun ws h => match F ws h with
  | some (r, h') => if TrimOk h h' r then some (r, h'.take h.length) else none
  | none => none
mutual
theorem RW.lt {ad : Nat → Option Addr} {n : Nat} (ha : ∀ m a, ad m = some a → m < n) : ∀ {w : W} {v : V}, RW K ad H w v → Lt n w
  | _, _, .non => .non
  | _, _, .bl b => .bl b
  | _, _, .int i => .int i
  | _, _, .str x => .str x
  | _, _, .tup _ r => .tup (RWs.lt ha r)
  | _, _, .rl _ r => .rl (RWs.lt ha r)
  | _, _, .ref h => .ref (ha _ _ h)
theorem RWs.lt {ad : Nat → Option Addr} {n : Nat} (ha : ∀ m a, ad m = some a → m < n) : ∀ {w : List W} {v : List V}, RWs K ad H w v → Lts n w
  | _, _, .nil => .nil
  | _, _, .cons h t => .cons (RW.lt ha h) (RWs.lt ha t)
end
theorem kvR_all {ad : Nat → Option Addr} {n : Nat} (ha : ∀ m a, ad m = some a → m < n) : ∀ {k : List (Int × W)} {k' : List (Key × V)}, kvR K ad H k k' → ∀ p ∈ k, Lt n p.2
  | [], _, .nil, p, hp => by cases hp
  | q :: r, _, .cons z t, p, hp => by
    rcases List.mem_cons.mp hp with e | e
    · subst e; exact z.2.lt ha
    · exact kvR_all ha t p e
theorem adr_lt {io : List (List Addr)} {m : Nat} {a : Addr} (z : adr io m = some a) : m < io.length := by
  unfold adr at z
  cases q : io[m]? with
  | none => rw [q] at z; cases z
  | some l => exact (List.getElem?_eq_some_iff.mp q).1
theorem okTrim {k : Nat} {f : Addr} {fd : FuncData} {ps : List Str} {F : Fn} (Fn : FnV G P w K mg base k f fd ps F) : FnV G P w K mg base k f fd ps (trimC F) := by
  classical
  refine FnV.abs Fn fun ws h r h1 e io H E => ?_
  unfold trimC at e
  split at e
  · rename_i r' h' eF
    split at e
    · rename_i ok
      cases e
      obtain ⟨hl, hr, hc⟩ := ok
      refine ⟨ws, h, r, h', io, eF, E, fun vs z => z, fun ioc' H' x' E' => ?_⟩
      have len : ioc'.length = h'.length := E'.len
      have hlt : (h'.take h.length).length = h.length := by rw [List.length_take]; omega
      have ad : ∀ m, m < h.length → ∀ a, adr ioc' m = some a → adr (ioc'.take h.length) m = some a := fun m hm a z => by
        unfold adr at z ⊢
        rw [List.getElem?_take_of_lt hm]
        exact z
      have sub : ∀ a, a ∈ (ioc'.take h.length).flatten → a ∈ ioc'.flatten := fun a ha => by
        obtain ⟨l, hl, q⟩ := List.mem_flatten.mp ha
        exact List.mem_flatten.mpr ⟨l, List.mem_of_mem_take hl, q⟩
      have ltio : ∀ m a, adr io m = some a → m < h.length := fun m a z => by rw [← E.len]; exact adr_lt z
      refine ⟨ioc'.take h.length, ⟨fun m a z => ad m (ltio m a z) a (x'.root m a z), fun a ha => x'.own a (sub a ha), x'.keep, x'.trk, x'.tup⟩, ⟨?_, ?_, fun m c em => ?_⟩, ?_⟩
      · rw [List.length_take, hlt]; omega
      · have nd := E'.nd
        rw [← List.take_append_drop h.length ioc', List.flatten_append] at nd
        exact (List.nodup_append.mp nd).1
      · have hm : m < h.length := by
          have := (List.getElem?_eq_some_iff.mp em).1
          rw [hlt] at this
          exact this
        rw [List.getElem?_take_of_lt hm] at em
        obtain ⟨l, el, rl⟩ := E'.at_ m c em
        refine ⟨l, by rw [List.getElem?_take_of_lt hm]; exact el, ?_⟩
        have cl : CellLt h.length c := by
          rcases hc m c hm em with z | z
          · obtain ⟨l0, el0, rl0⟩ := E.at_ m c z
            cases c with
            | pl o =>
              obtain ⟨a, e, r⟩ := rl0
              cases o with
              | lst xs => obtain ⟨vs, _, s⟩ := r; exact PoLt.lst (s.lt ltio)
              | ins c fs => obtain ⟨vs, dx, _, s, _⟩ := r; exact PoLt.ins (s.lt ltio)
              | rcd d fs => obtain ⟨vs, _, s, _⟩ := r; exact PoLt.rcd (s.lt ltio)
              | dct kvs => obtain ⟨vs, _, s⟩ := r; exact PoLt.dct (kvR_all ltio s)
            | tk T => trivial
            | hd T => trivial
            | fz xs => obtain ⟨a, vs, o, _, _, s⟩ := rl0; exact s.lt ltio
            | tb j q => trivial
            | lm i w => obtain ⟨f, r, pm, c', ctv, v0, e, e1, e2, e3, q, k⟩ := rl0; exact q.lt ltio
            | gone => trivial
          · exact z
        exact cl.rel ad rl
      · cases r with
        | ok a => exact fun v z => Lt.rel ad hr z
        | ex c => rfl
    · cases e
  · cases e
theorem trimC_of {F : Fn} {ws : List W} {h h1 g : VH} {r : Rs W} (e : F ws h = some (r, h1 ++ g)) (hl : h1.length = h.length) (hr : ResLt h.length r) (hc : ∀ (i : Nat) (c : Cell), h1[i]? = some c → h[i]? = some c ∨ CellLt h.length c) : trimC F ws h = some (r, h1) := by
  unfold trimC
  rw [e]
  have ok : TrimOk h (h1 ++ g) r := by
    refine ⟨by rw [List.length_append]; omega, hr, fun i c hi e => ?_⟩
    rw [List.getElem?_append_left (by omega)] at e
    exact hc i c e
  simp only [if_pos ok]
  rw [← hl, List.take_left]
theorem trimC_app {F : Fn} {ws : List W} {h g : VH} {r : Rs W} (e : F ws h = some (r, h ++ g)) (hr : ResLt h.length r) : trimC F ws h = some (r, h) := trimC_of e rfl hr fun _ _ z => .inl z
theorem trimC_set {F : Fn} {ws : List W} {h g : VH} {r : Rs W} {n : Nat} {T : Tk} (e : F ws h = some (r, h.set n (.tk T) ++ g)) (hr : ResLt h.length r) : trimC F ws h = some (r, h.set n (.tk T)) := trimC_of e (by simp) hr fun i c z => by
  by_cases q : n = i
  · subst q
    have hl : n < h.length := by have := (List.getElem?_eq_some_iff.mp z).1; simpa using this
    rw [List.getElem?_set_self hl] at z
    cases z
    exact .inr trivial
  · rw [List.getElem?_set_ne q] at z
    exact .inl z
end
end
/-! ### a def that takes and tells values alone -/
mutual
def noRB : W → Bool
  | .tup xs => noRsB xs
  | .rl xs => noRsB xs
  | .ref _ => false
  | _ => true
def noRsB : List W → Bool
  | [] => true
  | w :: ws => noRB w && noRsB ws
end
mutual
theorem noRB_ok : ∀ w : W, noRB w = true → NoR w
  | .non, _ => .non
  | .bl b, _ => .bl b
  | .int i, _ => .int i
  | .str x, _ => .str x
  | .tup xs, h => .tup (noRsB_ok xs (by simpa [noRB] using h))
  | .rl xs, h => .rl (noRsB_ok xs (by simpa [noRB] using h))
  | .ref n, h => by simp [noRB] at h
theorem noRsB_ok : ∀ ws : List W, noRsB ws = true → NoRs ws
  | [], _ => .nil
  | w :: ws, h => by
    simp only [noRsB, Bool.and_eq_true] at h
    exact .cons (noRB_ok w h.1) (noRsB_ok ws h.2)
end
def aloneF (F : Fn) : Fn := fun ws h => if noRsB ws = true then (match F ws [] with
  | some (.ok w, _) => if noRB w = true then some (.ok w, h) else none
  | some (.ex c, _) => some (.ex c, h)
  | none => none) else none
theorem okAlone {G : Gm} {P : Program} {w : World} {K : PySem.W.Frag} {mg : Str → Option Value} {base : Heap} {k : Nat} {f : Addr} {fd : FuncData} {ps : List Str} {F : Fn} (Fn : FnV G P w K mg base k f fd ps F) : FnV G P w K mg base k f fd ps (aloneF F) := by
  refine FnV.abs Fn fun ws h r h1 e io H E => ?_
  unfold aloneF at e
  split at e
  · rename_i hn
    have fin : ∀ ioc' H' , Ext [] H ioc' H' → Ext io H io H' ∧ Emb G io h H' := fun ioc' H' x' => by
      have keep : ∀ a o, H a = some o → H' a = some o := fun a o e => x'.keep a o e (by simp)
      refine ⟨⟨fun _ _ z => z, fun _ z => .inl z, fun a o e _ => keep a o e, x'.trk, x'.tup⟩, ⟨E.len, E.nd, fun i c ei => ?_⟩⟩
      obtain ⟨li, eli, ri⟩ := E.at_ i c ei
      exact ⟨li, eli, ri.mono (fun _ _ z => z) x'.tup fun a _ u z => keep a u z⟩
    split at e
    · rename_i w1 g eF
      split at e
      · rename_i hw
        cases e
        refine ⟨ws, [], _, g, [], eF, Emb.nil, fun vs r => (noRsB_ok ws hn).rel r, fun ioc' H' x' E' => ?_⟩
        obtain ⟨x2, E2⟩ := fin ioc' H' x'
        exact ⟨io, x2, E2, fun v rv => (noRB_ok w1 hw).rel rv⟩
      · cases e
    · rename_i c g eF
      cases e
      refine ⟨ws, [], _, g, [], eF, Emb.nil, fun vs r => (noRsB_ok ws hn).rel r, fun ioc' H' x' E' => ?_⟩
      obtain ⟨x2, E2⟩ := fin ioc' H' x'
      exact ⟨io, x2, E2, rfl⟩
    · cases e
  · cases e
/-- told True -/
def isT : Option (Rs W × VH) → Bool
  | some (.ok (.bl true), _) => true
  | _ => false
theorem isT_eq {m : Option (Rs W × VH)} (h : isT m = true) : ∃ h', m = some (.ok (.bl true), h') := by
  unfold isT at h
  split at h
  · exact ⟨_, rfl⟩
  · cases h
theorem alone_T {F : Fn} {ws : List W} (hn : noRsB ws = true) (ht : isT (F ws []) = true) (h : VH) : aloneF F ws h = some (.ok (.bl true), h) := by
  obtain ⟨g, e⟩ := isT_eq ht
  simp [aloneF, hn, e, noRB]
theorem lcR_run {A : Type} (enc : A → W) (t : A → Bool) (e : A → W) (xs : List A) (h : VH) (src : Sc) (i0 : Nat) (ft : FT) (fe : FE) (fm : Fm) (hx : xs.length < sizeLine)
    (hn : ∀ j, src.nx h j = some ((xs.map enc)[j]?)) (ht : ∀ a ∈ xs, ft (fm.set i0 (some (enc a))) h = some (.ok (t a), h)) (he : ∀ a ∈ xs, t a = true → fe (fm.set i0 (some (enc a))) h = some (.ok (e a), h)) :
    ∀ (ys : List A) (i k : Nat) (acc : List W), xs.drop i = ys → ys.length < k → acc.length ≤ i → lcR src i0 ft fe fm k i acc h = some (acc ++ (ys.filter t).map e, h)
  | _, _, 0, _, _, hk, _ => by omega
  | [], i, k + 1, acc, hy, hk, _ => by
    have z : xs[i]? = none := by
      rw [List.getElem?_eq_none]
      exact List.drop_eq_nil_iff.mp hy
    unfold lcR
    rw [hn i, List.getElem?_map, z]
    simp
  | a :: ys, i, k + 1, acc, hy, hk, ha => by
    have z : xs[i]? = some a := by
      have : (xs.drop i)[0]? = some a := by rw [hy]; rfl
      rw [List.getElem?_drop] at this
      simpa using this
    have hm : a ∈ xs := List.mem_of_getElem? z
    have hi : i < xs.length := (List.getElem?_eq_some_iff.mp z).1
    have hy' : xs.drop (i + 1) = ys := by rw [← List.drop_drop, hy]; rfl
    simp only [List.length_cons] at hk
    unfold lcR
    rw [hn i, List.getElem?_map, z]
    simp only [Option.map_some]
    rw [ht a hm]
    simp only
    by_cases q : t a = true
    · rw [if_pos q, he a hm q]
      simp only
      rw [if_pos (by omega), lcR_run enc t e xs h src i0 ft fe fm hx hn ht he ys (i + 1) k (acc ++ [e a]) hy' (by omega) (by simp; omega)]
      simp [q]
    · rw [if_neg q, lcR_run enc t e xs h src i0 ft fe fm hx hn ht he ys (i + 1) k acc hy' (by omega) (by omega)]
      simp [q]
theorem fLcR_run {A : Type} (enc : A → W) (t : A → Bool) (e : A → W) (xs : List A) {h : VH} {src : Sc} {i0 : Nat} {vs : List Nat} {fi : FI} {ft : FT} {fe : FE} {fm : Fm} (hf : fi fm h = some (.ok src, h)) (hx : xs.length < sizeLine) (hc : src.cnt h = xs.length)
    (hn : ∀ j, src.nx h j = some ((xs.map enc)[j]?)) (ht : ∀ a ∈ xs, ft ((wipeV fm vs).set i0 (some (enc a))) h = some (.ok (t a), h)) (he : ∀ a ∈ xs, t a = true → fe ((wipeV fm vs).set i0 (some (enc a))) h = some (.ok (e a), h)) :
    fLcR fi i0 vs ft fe fm h = some (.ok (.rl ((xs.filter t).map e)), h) := by
  unfold fLcR
  rw [hf]
  simp only [bindM]
  rw [hc, lcR_run enc t e xs h src i0 ft fe (wipeV fm vs) hx hn ht he xs 0 (xs.length + 1) [] rfl (by omega) (by simp)]
  simp
end Tw

/-! deeds as data -/
namespace Pr
open PySem PySem.Spec PyProof.Rows L2 Tw
def _root_.Tw.Tk.fresh (m w l : Int) : Tk := ⟨m, w, l, [], 0, [], [], [], [], true, true, 0, -1⟩
def catE : Nat → Option Bool := fun c => if 10 ≤ c ∧ c ≤ 20 then some true else none
inductive Deed where
  | say (w : Int) | post (p n : Int) | answer (p : Int) | bring (p i : Int) | lose (p i : Int) | fall (p : Int) | rise (p : Int) | tick
def Deed.enc : Deed → W
  | .say w => .tup [.str "say", .int w]
  | .post p n => .tup [.str "post", .int p, .int n]
  | .answer p => .tup [.str "answer", .int p]
  | .bring p i => .tup [.str "bring", .int p, .int i]
  | .lose p i => .tup [.str "lose", .int p, .int i]
  | .fall p => .tup [.str "fall", .int p]
  | .rise p => .tup [.str "rise", .int p]
  | .tick => .tup [.str "tick"]
def _root_.Tw.Tk.act (T : Tk) : Deed → Rs W × Tk
  | .say w => T.say w
  | .post p n => T.post p n
  | .answer p => T.answer p
  | .bring p i => T.bring p i
  | .lose p i => T.lose p i
  | .fall p => T.fall p
  | .rise p => T.rise p
  | .tick => T.tick
def isOk : Rs W → Bool
  | .ok _ => true
  | .ex _ => false
def _root_.Tw.Tk.can (T : Tk) (d : Deed) : Bool := isOk (T.act d).1
theorem bits_lt {i : Int} {n : Nat} (h : Builtin.Int.intBits i ≤ n) : i.natAbs < 2 ^ n := by
  unfold Builtin.Int.intBits at h
  split at h
  · rename_i e
    have : i = 0 := by simpa using e
    subst this
    exact Nat.pos_of_ne_zero (by simp)
  · rename_i e
    have : i.natAbs ≠ 0 := by simpa using e
    exact (Nat.log2_lt this).mp (by omega)
theorem bits_of {i : Int} {n : Nat} (h : i.natAbs < 2 ^ n) : Builtin.Int.intBits i ≤ n := by
  unfold Builtin.Int.intBits
  split
  · omega
  · rename_i e
    have : i.natAbs ≠ 0 := by simpa using e
    have := (Nat.log2_lt this).mpr h
    omega
theorem mul_l {i j : Int} (h1 : -18446744073709551616 < i) (h2 : i < 18446744073709551616) : mulOk i j = true := by
  unfold mulOk
  rw [Bool.or_eq_true, Bool.or_eq_true]
  exact .inl (.inl (by rw [Bool.and_eq_true, decide_eq_true_eq, decide_eq_true_eq]; exact ⟨h1, h2⟩))
theorem mul_r {i j : Int} (h1 : -18446744073709551616 < j) (h2 : j < 18446744073709551616) : mulOk i j = true := by
  unfold mulOk
  rw [Bool.or_eq_true, Bool.or_eq_true]
  exact .inl (.inr (by rw [Bool.and_eq_true, decide_eq_true_eq, decide_eq_true_eq]; exact ⟨h1, h2⟩))
theorem mul_b {i j : Int} {a b : Nat} (h1 : i.natAbs < 2 ^ a) (h2 : j.natAbs < 2 ^ b) (h : a + b ≤ 134217728) : mulOk i j = true := by
  unfold mulOk
  rw [Bool.or_eq_true]
  refine .inr ?_
  rw [decide_eq_true_eq]
  have := bits_of h1
  have := bits_of h2
  omega
theorem act_ex {T : Tk} {d : Deed} {c : Nat} (e : (T.act d).1 = .ex c) : (T.act d).2 = T ∧ catE c = some true := by
  have e' := e
  cases d with
  | say w =>
    simp only [Tk.act, Tk.say] at e ⊢
    split at e <;> rename_i h1
    · split at e <;> rename_i h2
      · cases e; simp [h1, h2, catE]
      · cases e
    · cases e; simp [h1, catE]
  | post p n =>
    simp only [Tk.act, Tk.post] at e ⊢
    split at e <;> rename_i h1
    · split at e <;> rename_i h2
      · split at e <;> rename_i h3
        · cases e
        · cases e; simp [h1, h2, h3, catE]
      · cases e; simp [h1, h2, catE]
    · cases e; simp [h1, catE]
  | answer p =>
    simp only [Tk.act, Tk.answer] at e ⊢
    split at e <;> rename_i h1
    · split at e <;> rename_i h3
      · cases e
      · cases e; simp [h1, h3, catE]
    · cases e; simp [h1, catE]
  | bring p i =>
    simp only [Tk.act, Tk.bring] at e ⊢
    split at e <;> rename_i h1
    · cases ha : T.atP p i with
      | some l => rw [ha] at e; cases e
      | none => rw [ha] at e; cases e; simp [h1, catE]
    · cases e; simp [h1, catE]
  | lose p i =>
    simp only [Tk.act, Tk.lose] at e ⊢
    split at e <;> rename_i h1
    · cases ha : T.atP p i with
      | some l => rw [ha] at e; cases e
      | none => rw [ha] at e; cases e; simp [h1, catE]
    · cases e; simp [h1, catE]
  | fall p =>
    simp only [Tk.act, Tk.fall] at e ⊢
    split at e <;> rename_i h1
    · split at e <;> rename_i h3
      · cases e
      · cases e; simp [h1, h3, catE]
    · cases e; simp [h1, catE]
  | rise p =>
    simp only [Tk.act, Tk.rise] at e ⊢
    split at e <;> rename_i h1
    · split at e <;> rename_i h3
      · cases e; simp [h1, h3, catE]
      · cases e
    · cases e; simp [h1, catE]
  | tick => cases e
theorem act_good {T : Tk} {N : Nat} (g : T.Good N) (d : Deed) : (T.act d).2.Good (N + 1) := by
  have g1 := g.mono (Nat.le_succ N)
  cases d with
  | say w =>
    simp only [Tk.act, Tk.say]
    split
    · split
      · exact g1
      · rename_i h1 h2
        refine ⟨g1.marks, g1.known, ?_, ?_, g1.hear, g1.r0, g1.r1, g1.ear⟩
        · show (T.said ++ [w]).length ≤ 60
          simp only [Tk.waits, not_or] at h2
          simp
          omega
        · show T.known ≤ ((T.said ++ [w]).length : Int)
          have := g.ks
          simp
          omega
    · exact g1
  | post p n =>
    simp only [Tk.act, Tk.post]
    split
    · split
      · split
        · exact g.put p _
        · exact g1
      · exact g1
    · exact g1
  | answer p =>
    simp only [Tk.act, Tk.answer]
    split
    · split
      · exact g.put p _
      · exact g1
    · exact g1
  | bring p i =>
    simp only [Tk.act, Tk.bring]
    split
    · cases ha : T.atP p i with
      | some l => exact (g.off p i).arrive l
      | none => exact g1
    · exact g1
  | lose p i =>
    simp only [Tk.act, Tk.lose]
    split
    · cases ha : T.atP p i with
      | some l => exact (g.off p i).mono (Nat.le_succ N)
      | none => exact g1
    · exact g1
  | fall p =>
    simp only [Tk.act, Tk.fall]
    split
    · split
      · unfold Tk.sRd Tk.sUp
        split
        · exact ⟨g1.marks, g1.known, g1.said, g1.ks, g1.hear, Nat.zero_le _, g1.r1, g1.ear⟩
        · exact ⟨g1.marks, g1.known, g1.said, g1.ks, g1.hear, g1.r0, Nat.zero_le _, g1.ear⟩
      · exact g1
    · exact g1
  | rise p =>
    simp only [Tk.act, Tk.rise]
    split
    · split
      · exact g1
      · unfold Tk.sUp
        split
        · exact ⟨g1.marks, g1.known, g1.said, g1.ks, g1.hear, g1.r0, g1.r1, g1.ear⟩
        · exact ⟨g1.marks, g1.known, g1.said, g1.ks, g1.hear, g1.r0, g1.r1, g1.ear⟩
    · exact g1
  | tick => exact ⟨g1.marks, g1.known, g1.said, g1.ks, g1.hear, Nat.le_trans (List.length_filter_le _ _) g1.r0, Nat.le_trans (List.length_filter_le _ _) g1.r1, g1.ear⟩
theorem hear_good {T : Tk} {N : Nat} (g : T.Good N) (n : Int) : (T.hear n).Good (N + 1) := g.arrive _
theorem hear_same (T : Tk) (n : Int) : (T.hear n).said = T.said ∧ (T.hear n).known = T.known ∧ (T.hear n).u0 = T.u0 ∧ (T.hear n).u1 = T.u1 := by
  have h := T.arr_said (T.ltrOf n)
  exact ⟨h.1, T.ltr_known _ _, h.2.2.2.2.2.2.1, h.2.2.2.2.2.2.2⟩
theorem left_mem (T : Tk) {N : Nat} (g : T.Good N) : ∀ n ∈ T.left, T.known ≤ n ∧ n < T.said.length := by
  intro n hn
  unfold Tk.left at hn
  obtain ⟨i, hi, rfl⟩ := List.mem_map.mp hn
  have := List.mem_range.mp hi
  omega
theorem left_len (T : Tk) {N : Nat} (g : T.Good N) : T.left.length ≤ 60 := by
  have h1 := g.said
  have h2 := g.known
  simp [Tk.left]
  omega
theorem fold_good : ∀ (ys : List Int) {T : Tk} {N : Nat}, T.Good N → (ys.foldl Tk.hear T).Good (N + ys.length)
  | [], _, _, g => g
  | y :: ys, T, N, g => (fold_good ys (hear_good g y)).mono (by simp only [List.length_cons]; omega)
theorem catch_good {T : Tk} {N : Nat} (g : T.Good N) (p : Int) : (T.catchUp p).2.Good (N + 62) := by
  unfold Tk.catchUp
  split
  · split
    · have h1 := left_len T g
      exact ((fold_good T.left g).arrive _).mono (by omega)
    · exact g.mono (by omega)
  · exact g.mono (by omega)
theorem fresh_good {m w l : Int} (h : 1 ≤ m) : (Tk.fresh m w l).Good 0 := ⟨by show 0 < m; omega, Int.le_refl _, Nat.zero_le _, Int.le_refl _, Nat.le_refl _, Nat.le_refl _, Nat.le_refl _, rfl⟩
theorem act_safe {T : Tk} (s : T.Safe) (d : Deed) : (T.act d).2.Safe := by
  cases d with
  | say w =>
    simp only [Tk.act, Tk.say]
    split
    · split
      · exact s
      · rename_i h1 h2
        simp only [Tk.waits, not_or] at h2
        exact s.said w (by omega) h2.2.1
    · exact s
  | post p n =>
    simp only [Tk.act, Tk.post]
    split
    · split
      · split
        · rename_i h1 h2 h3
          exact s.put p (s.okLtr h2.1 h2.2)
        · exact s
      · exact s
    · exact s
  | answer p =>
    simp only [Tk.act, Tk.answer]
    split
    · split
      · exact s.put p s.okAns
      · exact s
    · exact s
  | bring p i =>
    simp only [Tk.act, Tk.bring]
    split
    · cases ha : T.atP p i with
      | some l =>
        obtain ⟨t, ht⟩ : ∃ t, T.OkL (l, t) := by
          unfold Tk.atP at ha
          split at ha
          · obtain ⟨q, e1, e2⟩ := Option.map_eq_some_iff.mp ha
            subst e2
            exact ⟨q.2, s.rdOk p q (List.mem_of_getElem? e1)⟩
          · cases ha
        have hu : (T.off p i).OkL (l, t) := by
          unfold Tk.off Tk.sRd
          split
          · exact Tk.OkL.up (T := T) rfl rfl rfl rfl rfl rfl (Nat.le_refl _) ht
          · exact Tk.OkL.up (T := T) rfl rfl rfl rfl rfl rfl (Nat.le_refl _) ht
        exact (s.off p i).arrive hu
      | none => exact s
    · exact s
  | lose p i =>
    simp only [Tk.act, Tk.lose]
    split
    · cases ha : T.atP p i with
      | some l => exact s.off p i
      | none => exact s
    · exact s
  | fall p =>
    simp only [Tk.act, Tk.fall]
    split
    · split
      · exact (s.sUp p false).sRd p (by simp)
      · exact s
    · exact s
  | rise p =>
    simp only [Tk.act, Tk.rise]
    split
    · split
      · exact s
      · exact s.sUp p true
    · exact s
  | tick => exact s.ticked
end Pr

/-! runs of blocks, step by step -/
namespace Tw
open PySem L2
def Run (f : FSt) (fm : Fm) (h : VH) (Q : Fl → Fm → VH → Prop) : Prop := ∃ fl fm' h', f fm h = some (fl, fm', h') ∧ Q fl fm' h'
section
variable {f g g1 g2 : FSt} {fe : FE} {ft : FT} {fm fm1 : Fm} {h h1 : VH} {Q : Fl → Fm → VH → Prop} {i j k : Nat} {w w1 w2 w3 : W} {b : Bool} {fs : List FE}
theorem Run.nx (e : f fm h = some (.nx, fm1, h1)) (k : Run g fm1 h1 Q) : Run (fSeq f g) fm h Q := by
  obtain ⟨fl, fm', h', e2, q⟩ := k
  exact ⟨fl, fm', h', by simp [e, e2], q⟩
theorem Run.seq (r : Run f fm h fun fl fm1 h1 => match fl with
    | .nx => Run g fm1 h1 Q
    | fl => Q fl fm1 h1) : Run (fSeq f g) fm h Q := by
  obtain ⟨fl, fm', h', e, q⟩ := r
  cases fl with
  | nx =>
    obtain ⟨fl2, fm2, h2, e2, q2⟩ := q
    exact ⟨fl2, fm2, h2, by simp [e, e2], q2⟩
  | ct => exact ⟨_, _, _, by simp [e], q⟩
  | bk => exact ⟨_, _, _, by simp [e], q⟩
  | rt w => exact ⟨_, _, _, by simp [e], q⟩
  | ex c => exact ⟨_, _, _, by simp [e], q⟩
theorem Run.mono {Q' : Fl → Fm → VH → Prop} (r : Run f fm h Q) (k : ∀ fl fm h, Q fl fm h → Q' fl fm h) : Run f fm h Q' := by
  obtain ⟨fl, fm', h', e, q⟩ := r
  exact ⟨fl, fm', h', e, k _ _ _ q⟩
theorem Run.set (e : fe fm h = some (.ok w, h1)) (k : Q .nx (fm.set i (some w)) h1) : Run (fSet i fe) fm h Q := ⟨_, _, _, by simp [e], k⟩
theorem Run.do_ (e : fe fm h = some (.ok w, h1)) (k : Q .nx fm h1) : Run (fDo fe) fm h Q := ⟨_, _, _, by simp [e], k⟩
theorem Run.ret (e : fe fm h = some (.ok w, h1)) (k : Q (.rt w) fm h1) : Run (fRet fe) fm h Q := ⟨_, _, _, by simp [e], k⟩
theorem Run.nil (k : Q .nx fm h) : Run fNil fm h Q := ⟨_, _, _, rfl, k⟩
theorem Run.ifT (e : ft fm h = some (.ok true, h1)) (k : Run g1 fm h1 Q) : Run (fIfS ft g1 g2) fm h Q := by
  obtain ⟨fl, fm', h', e2, q⟩ := k
  exact ⟨fl, fm', h', by simp [e, e2], q⟩
theorem Run.ifF (e : ft fm h = some (.ok false, h1)) (k : Run g2 fm h1 Q) : Run (fIfS ft g1 g2) fm h Q := by
  obtain ⟨fl, fm', h', e2, q⟩ := k
  exact ⟨fl, fm', h', by simp [e, e2], q⟩
theorem Run.par2 (e : fAll fs fm h = some (.ok [w1, w2], h1)) (k : Q .nx ((fm.set i (some w1)).set j (some w2)) h1) : Run (fPar2 i j fs) fm h Q := ⟨_, _, _, by simp [e], k⟩
theorem Run.par3 {l : Nat} (e : fAll fs fm h = some (.ok [w1, w2, w3], h1)) (k : Q .nx (((fm.set i (some w1)).set j (some w2)).set l (some w3)) h1) : Run (fPar3 i j l fs) fm h Q := ⟨_, _, _, by simp [e], k⟩
/-- a walk over a source whose things are known -/
theorem Run.for {fi : FI} {gt : GT} {fb : FSt} {src : Sc} (items : List W) (I : Nat → Fm → VH → Prop) (hi : fi fm h = some (.ok src, h1)) (hc : src.cnt h1 = items.length) (h0 : I 0 fm h1)
    (hx : ∀ i fm h, I i fm h → src.nx h i = some items[i]?)
    (step : ∀ i w fm h, items[i]? = some w → I i fm h → ∃ fm1, gt w fm = some fm1 ∧ Run fb fm1 h fun fl fm2 h2 => match fl with
      | .nx => I (i + 1) fm2 h2
      | .ct => I (i + 1) fm2 h2
      | .bk => Q .nx fm2 h2
      | fl => Q fl fm2 h2)
    (hend : ∀ fm h, I items.length fm h → Q .nx fm h) : Run (fFor fi gt fb) fm h Q := by
  have key : ∀ (k i : Nat) (fm : Fm) (h : VH), i ≤ items.length → items.length < i + k → I i fm h → ∃ fl fm' h', forLoop src gt fb k i fm h = some (fl, fm', h') ∧ Q fl fm' h' := by
    intro k
    induction k with
    | zero => intro i fm h h1 h2; omega
    | succ k ih =>
      intro i fm h h1 h2 hI
      have nx := hx i fm h hI
      unfold forLoop
      rw [nx]
      by_cases q : i < items.length
      · have e : items[i]? = some items[i] := List.getElem?_eq_getElem q
        rw [e]
        obtain ⟨fm1, eg, fl, fm2, h2', eb, post⟩ := step i _ fm h e hI
        simp only [eg, eb]
        cases fl with
        | nx => exact ih (i + 1) fm2 h2' (by omega) (by omega) post
        | ct => exact ih (i + 1) fm2 h2' (by omega) (by omega) post
        | bk => exact ⟨_, _, _, rfl, post⟩
        | rt w => exact ⟨_, _, _, rfl, post⟩
        | ex c => exact ⟨_, _, _, rfl, post⟩
      · have e : items[i]? = none := List.getElem?_eq_none (by omega)
        have hl : i = items.length := by omega
        subst hl
        rw [e]
        exact ⟨_, _, _, rfl, hend _ _ hI⟩
  obtain ⟨fl, fm', h', e, q⟩ := key (items.length + 1) 0 fm h1 (by omega) (by omega) h0
  exact ⟨fl, fm', h', by simp [hi, hc, e], q⟩
theorem Run.fn {n ar : Nat} {ws : List W} {P : Rs W → VH → Prop} (hl : ws.length = ar) (r : Run f (startV n ws) h fun fl fm h => match fl with
    | .nx => P (.ok .non) h
    | .rt w => P (.ok w) h
    | .ex c => P (.ex c) h
    | _ => False) : ∃ r h', runB n ar f ws h = some (r, h') ∧ P r h' := by
  obtain ⟨fl, fm', h', e, q⟩ := r
  unfold runB
  rw [if_pos hl, e]
  cases fl with
  | nx => exact ⟨_, _, rfl, q⟩
  | rt w => exact ⟨_, _, rfl, q⟩
  | ex c => exact ⟨_, _, rfl, q⟩
  | bk => exact q.elim
  | ct => exact q.elim
end
def rngL (lo : Int) (n : Nat) : List W := (List.range n).map fun i => W.int (lo + (i : Nat))
theorem rngL_get (lo : Int) (n i : Nat) : (rngL lo n)[i]? = if i < n then some (.int (lo + (i : Nat))) else none := by
  unfold rngL
  rw [List.getElem?_map]
  by_cases q : i < n
  · rw [if_pos q, List.getElem?_range q]; rfl
  · rw [if_neg q, List.getElem?_eq_none (by simpa using q)]; rfl
theorem rngL_len (lo : Int) (n : Nat) : (rngL lo n).length = n := by simp [rngL]
theorem rng_nx (lo : Int) (n i : Nat) (h : VH) : (Sc.rng lo n).nx h i = some (rngL lo n)[i]? := by
  rw [rngL_get]
  show (if i < n then some (some (W.int (lo + (i : Nat)))) else some none) = _
  split <;> rfl
/-- a walk over numbers -/
theorem Run.rng {fm : Fm} {h h1 : VH} {Q : Fl → Fm → VH → Prop} {fi : FI} {gt : GT} {fb : FSt} {lo : Int} {n : Nat} (I : Nat → Fm → VH → Prop) (hi : fi fm h = some (.ok (.rng lo n), h1)) (h0 : I 0 fm h1)
    (step : ∀ i fm h, i < n → I i fm h → ∃ fm1, gt (.int (lo + (i : Nat))) fm = some fm1 ∧ Run fb fm1 h fun fl fm2 h2 => match fl with
      | .nx => I (i + 1) fm2 h2
      | .ct => I (i + 1) fm2 h2
      | .bk => Q .nx fm2 h2
      | fl => Q fl fm2 h2)
    (hend : ∀ fm h, I n fm h → Q .nx fm h) : Run (fFor fi gt fb) fm h Q := by
  refine Run.for (rngL lo n) I hi (by rw [rngL_len]; rfl) h0 (fun i fm h _ => rng_nx lo n i h) (fun i w fm h e hI => ?_) (fun fm h hI => hend fm h (by rw [rngL_len] at hI; exact hI))
  rw [rngL_get] at e
  split at e
  · rename_i q
    cases e
    exact step i fm h q hI
  · cases e
/-- a walk over a list by value -/
theorem Run.vls {fm : Fm} {h h1 : VH} {Q : Fl → Fm → VH → Prop} {fi : FI} {gt : GT} {fb : FSt} {xs : List W} (I : Nat → Fm → VH → Prop) (hi : fi fm h = some (.ok (.vls xs), h1)) (h0 : I 0 fm h1)
    (step : ∀ i w fm h, xs[i]? = some w → I i fm h → ∃ fm1, gt w fm = some fm1 ∧ Run fb fm1 h fun fl fm2 h2 => match fl with
      | .nx => I (i + 1) fm2 h2
      | .ct => I (i + 1) fm2 h2
      | .bk => Q .nx fm2 h2
      | fl => Q fl fm2 h2)
    (hend : ∀ fm h, I xs.length fm h → Q .nx fm h) : Run (fFor fi gt fb) fm h Q :=
  Run.for xs I hi rfl h0 (fun i fm h _ => rfl) step hend
theorem intsW_of : ∀ ns : List Int, intsW (ns.map W.int) = some ns
  | [] => rfl
  | n :: ns => by simp [intsW, intsW_of ns]
theorem cut_take (xs : List W) (n : Nat) : cutW xs none (some (n : Int)) = xs.take n := by
  have h1 : HT.sIx xs.length 0 none = 0 := rfl
  have h2 : HT.sIx xs.length xs.length (some (n : Int)) = min n xs.length := by
    simp [HT.sIx]
    omega
  unfold cutW
  rw [h1, h2, List.drop_zero, Nat.sub_zero, List.take_eq_take_iff]
  simp
/-! ### == of rows of numbers, of letters -/
theorem mapO_map {A B C : Type} (f : B → Option C) (g : A → B) (d : A → C) (h : ∀ a, f (g a) = some (d a)) : ∀ xs : List A, mapO f (xs.map g) = some (xs.map d)
  | [] => rfl
  | x :: xs => by
    rw [List.map_cons, mapO, h x, mapO_map f g d h xs]
    rfl
theorem td_ints (n : Nat) (h : VH) (ns : List Int) : toD (n + 2) h (.rl (ns.map W.int)) = some (.list (ns.map PyData.int)) := by
  show (match mapO (toD (n + 1) h) (ns.map W.int) with
    | some ds => some (PyData.list ds)
    | none => none) = _
  rw [mapO_map (toD (n + 1) h) W.int PyData.int (fun a => rfl)]
def dL : Ltr → PyData
  | .ltr m w => .tuple [.str "letter", .int m, .int w]
  | .ans m => .tuple [.str "answer", .int m]
theorem td_ltr (n : Nat) (h : VH) (l : Ltr) : toD (n + 2) h (encL l) = some (dL l) := by
  have h1 : PyData.strOk "letter" = true := by decide +kernel
  have h2 : PyData.strOk "answer" = true := by decide +kernel
  cases l <;> simp [encL, toD, mapO, dL, h1, h2]
theorem td_ltrs (n : Nat) (h : VH) (r : List (Ltr × Int)) : toD (n + 3) h (.rl (r.map fun a => encL a.1)) = some (.list (r.map fun a => dL a.1)) := by
  show (match mapO (toD (n + 2) h) (r.map fun a => encL a.1) with
    | some ds => some (PyData.list ds)
    | none => none) = _
  rw [mapO_map (toD (n + 2) h) (fun a : Ltr × Int => encL a.1) (fun a => dL a.1) (fun a => td_ltr n h a.1)]
theorem td_nil (n : Nat) (h : VH) : toD (n + 1) h (.rl []) = some (.list []) := rfl
theorem eqA_ints : ∀ a b : List Int, PyData.eqvAll (a.map PyData.int) (b.map PyData.int) = decide (a = b)
  | [], [] => by simp [PyData.eqvAll]
  | [], b :: bs => by simp [PyData.eqvAll]
  | a :: as, [] => by simp [PyData.eqvAll]
  | a :: as, b :: bs => by
    rw [List.map_cons, List.map_cons, PyData.eqvAll, eqA_ints as bs, PyData.eqv]
    by_cases h1 : a = b <;> by_cases h2 : as = bs <;> simp [h1, h2]
theorem eq_ints (a b : List Int) : PyData.eqv (.list (a.map PyData.int)) (.list (b.map PyData.int)) = decide (a = b) := by
  rw [PyData.eqv]; exact eqA_ints a b
theorem eq_nil (a : List PyData) : PyData.eqv (.list a) (.list []) = a.isEmpty := by
  rw [PyData.eqv]
  cases a <;> simp [PyData.eqvAll]
theorem eq_ltr (l : Ltr) : PyData.eqv (dL l) (dL l) = true := by
  cases l <;> simp [dL, PyData.eqv, PyData.eqvAll]
theorem eqA_ltrs : ∀ r : List (Ltr × Int), PyData.eqvAll (r.map fun a => dL a.1) (r.map fun a => dL a.1) = true
  | [] => by simp [PyData.eqvAll]
  | a :: r => by simp [PyData.eqvAll, eq_ltr, eqA_ltrs r]
theorem cut_ints (ns : List Int) (n : Nat) : cutW (ns.map W.int) none (some (n : Int)) = (ns.take n).map W.int := by
  rw [cut_take, List.map_take]
end Tw

/-! further rules -/
namespace Tw
open PySem PySem.Spec PyProof.Rows L2
/-! ### C() where there is no __init__ -/
structure Mk0 (K : PySem.W.Frag) (C : Addr) : Prop where
  makes : PySem.W.makesIn K C = true
  init : PySem.W.findIn K (.ref C) "__init__" = some (some (.builtin "object.__init__"))
  top : PySem.W.mroIn K C (.type "object") = some true
  kp : PySem.W.keepIn K (.ref C) = true
section
variable {G : Gm} {X : Cx} {Wx : WX} {e o : Expr} {f fo : FE} {pos p apos cpos : Pos} {x : Str} {C : Addr}
theorem run_make0 {pins : List (Addr × Obj)} {σ : L2.St} {H : Hp} {s : Shared} {Q : VK} (M : Mk0 X.K C) (I : Inv X pins σ H s)
    (h : ∀ x dx, H x = none → H dx = none → dx ≠ x → Q (.ref x) (upd (upd H dx (.own x)) x (.ins C dx []))) : wpAny (model X.prog X.w) X.A (call (.ref C) []) (EP X pins σ Q) X.xe s := by
  have hq := h (s.heap.objs.size + 1) s.heap.objs.size (I.hok.fresh (Nat.le_succ _)) (I.hok.fresh (Nat.le_refl _)) (Nat.ne_of_lt (Nat.lt_succ_self _))
  have I2 := Inv.made (C := C) I
  refine wpAny_call (make_map0 I.kIn M.makes M.init (fun self => PySem.W.Looks.of_pure (PySem.W.oi_bind _)) ?_)
  have ho : ((s.heap.push PySem.W.emptyDict).push (PySem.W.instObj C s.heap.objs.size)).get? (s.heap.objs.size + 1) = some (PySem.W.instObj C s.heap.objs.size) := by
    have := Heap.get?_push_size (s.heap.push PySem.W.emptyDict) (o := PySem.W.instObj C s.heap.objs.size) rfl
    rwa [Heap.size_push] at this
  have t1 : PySem.W.Looks (model X.prog X.w) ((s.heap.push PySem.W.emptyDict).push (PySem.W.instObj C s.heap.objs.size)) (typeOf (.ref (s.heap.objs.size + 1))) (.ref C) := NwA.type_at ho rfl
  have t2 : PySem.W.Looks (model X.prog X.w) ((s.heap.push PySem.W.emptyDict).push (PySem.W.instObj C s.heap.objs.size)) (isInstance (.ref (s.heap.objs.size + 1)) (.type "object")) true := t1.andThen (PySem.W.looks_mroIn I2.kIn M.top)
  refine codeAny_call_builtin PySem.W.oi_plain PySem.W.entry_oi (@PySem.W.check_slot (model X.prog X.w) _ _ _ "object.__init__" "object" "__init__" (.ref (s.heap.objs.size + 1)) [] [] _ PySem.W.oi_kind PySem.W.oi_split t2 (NwA.oi_args_any _ [] []) ?_)
  rw [PySem.W.oi_run]
  exact wpAny_pure ⟨rfl, V.ref (s.heap.objs.size + 1), _, I2, rfl, hq⟩
@[simp] def fMake0 (c : Nat) : FE := fun _ h => some (.ok (.ref h.length), h ++ [.pl (.ins c [])])
theorem se_make0 (c : Nat) (M : Mk0 X.K (G.C c)) (hfl : (G.fl c).Nodup ∧ (G.fl c).length ≤ 500) (hg : Gl X x) (hm : X.mg x = some (.ref (G.C c))) (hdb : (x == ("__debug__" : Str)) = false := by decide) :
    SE G X Wx (.Call (.Name x p) [] [] pos) (fMake0 c) := by
  refine ⟨fun pins s σ H Q I q => ?_⟩
  refine wpAny_Call_Name_kw (ld_glob I hg hm ?_ hdb)
  refine PySem.W.callWith_K0 I.kIn M.kp (run_make0 M I ?_)
  obtain ⟨fm, h, r, h', io, e, E, S, p⟩ := q
  cases e
  intro y dx ny ndx ne
  obtain ⟨E2, x2⟩ := E.side (o := .own y) ndx
  have ny2 : upd H dx (.own y) y = none := by rw [upd_ne (Ne.symm ne)]; exact ny
  obtain ⟨E3, x3⟩ := E2.alloc (q := .ins c []) (o := .ins (G.C c) dx []) ny2 trivial ⟨[], dx, by rw [upd_same]; simp [zipF], .nil, Nat.zero_le _, hfl.1, hfl.2⟩
  exact p _ _ (x2.trans x3) E3 _ (.ref (by rw [← E.len]; exact adr_new))
/-! ### a written dict's get -/
def TabOf : List DictEntry → List (Str × Int) → Prop
  | [], [] => True
  | e :: r, (x, i) :: t => (∃ u v, e.key = .str x u ∧ e.val = .int i v) ∧ TabOf r t
  | _, _ => False
structure WDct (pr : Params) (K : PySem.W.Frag) (a : Addr) (tab : List (Str × Int)) : Prop where
  ok : ∃ es n, K.lookup a = some ⟨.type "dict", none, .dict es n, #[]⟩ ∧ PySem.W.KeysLit pr es.toList ∧ TabOf es.toList tab
  low : (a == sysModules) = false
theorem tabOf_find {x : Str} : ∀ {l : List DictEntry} {t : List (Str × Int)}, TabOf l t → l.any (·.refKey) = false ∧ ((∃ i u e, t.lookup x = some i ∧ l.find? (·.key.isStr x) = some e ∧ e.val = .int i u) ∨ (t.lookup x = none ∧ l.find? (·.key.isStr x) = none))
  | [], [], _ => ⟨rfl, .inr ⟨rfl, rfl⟩⟩
  | [], _ :: _, h => h.elim
  | _ :: _, [], h => h.elim
  | e :: r, (y, i) :: t, h => by
    obtain ⟨⟨u, v, h1, h2⟩, h3⟩ := h
    obtain ⟨k1, k2⟩ := tabOf_find (x := x) h3
    have re : e.refKey = false := by simp [DictEntry.refKey, h1]
    refine ⟨by rw [List.any_cons, re, k1]; rfl, ?_⟩
    have hk : e.key.isStr x = (x == y) := by
      rw [h1]
      show (y == x) = (x == y)
      by_cases q : x = y
      · subst q; rfl
      · rw [beq_eq_false_iff_ne.mpr q, beq_eq_false_iff_ne.mpr (Ne.symm q)]
    cases q : (x == y) with
    | true => exact .inl ⟨i, v, e, by simp [List.lookup, q], by simp [List.find?, hk, q], h2⟩
    | false =>
      rcases k2 with ⟨j, u', e', a1, a2, a3⟩ | ⟨a1, a2⟩
      · exact .inl ⟨j, u', e', by simp [List.lookup, q, a1], by simp [List.find?, hk, q, a2], a3⟩
      · exact .inr ⟨by simp [List.lookup, q, a1], by simp [List.find?, hk, q, a2]⟩
theorem WDct.ns {pr : Params} {K : PySem.W.Frag} {a : Addr} {tab : List (Str × Int)} (d : WDct pr K a tab) (x : Str) : (∃ i u, tab.lookup x = some i ∧ PySem.W.nsIn K a x = some (some (.int i u))) ∨ (tab.lookup x = none ∧ PySem.W.nsIn K a x = some none) := by
  obtain ⟨es, n, h1, h2, h3⟩ := d.ok
  obtain ⟨k1, k2⟩ := tabOf_find (x := x) h3
  unfold PySem.W.nsIn
  rw [h1]
  rcases k2 with ⟨i, u, e, a1, a2, a3⟩ | ⟨a1, a2⟩
  · exact .inl ⟨i, u, a1, by simp [a2, a3]⟩
  · exact .inr ⟨a1, by simp [a2, k1]⟩
/-- D.get(k, i), D a written dict of numbers -/
@[simp] def fWget (tab : List (Str × Int)) (fk : FE) (i : Int) : FE := fun fm h => bindM (fk fm h) fun w h1 => match w with
  | .str x => some (.ok (.int ((tab.lookup x).getD i)), h1)
  | _ => none
theorem se_wget {a : Addr} {tab : List (Str × Int)} {i : Int} {k : Nat} {p2 p3 : Pos} (d : WDct X.w.params X.K a tab) (hg : Gl X x) (hm : X.mg x = some (.ref a)) (he : SE G X Wx e f) (m : M2 X (.Name x p2) "get" apos e (.Constant (.int i) k p3) cpos) (hdb : (x == ("__debug__" : Str)) = false := by decide) :
    SE G X Wx (.Call (.Attribute (.Name x p2) "get" apos) [e, .Constant (.int i) k p3] [] cpos) (fWget tab f i) := by
  refine ⟨fun pins s σ H Q I q => ?_⟩
  obtain ⟨es, n, hl, hk, ht⟩ := d.ok
  have ho : PE X (.Name x p2) (tC (.ref a)) := pe_glob (v := .ref a) hg hm rfl hdb
  have q' : cE G Wx f σ H (fun y H2 => ∃ z, y = .str z ∧ Q (.int ((tab.lookup z).getD i)) H2) := by
    obtain ⟨fm, h, r, h', io, e, E, S, p⟩ := q
    refine cG_step E S e p fun b h1 e1 io1 H1 v x1 E1 rv => ?_
    split at e1
    · cases e1; cases rv
      exact ⟨_, rfl, p io1 H1 x1 E1 _ (.int _)⟩
    · cases e1
  refine wpAny_Call_method m.base m.few m.line PySem.F.plainAttrs_dict PySem.F.slot_dict_get PySem.F.type_dict_get (thn (ho.run pins s σ H (fun y H1 => y = .ref a ∧ H1 = H) I ⟨rfl, rfl⟩) fun u s1 z => ?_)
  obtain ⟨y, H1, I1, rx, ey, eH⟩ := z
  subst ey eH
  obtain rfl : u = Value.ref a := rx
  have hm1 := PySem.W.mapOf_K (prog := X.prog) (w := X.w) I1.kIn hl hk
  refine ⟨hm1.typeIs, fun b z => by cases z; exact ⟨_, I1.kIn _ _ hl, rfl⟩, ?_⟩
  rw [m.trees]
  refine Calls.callWith_builtin rfl (Calls.evalArgs_plain (Calls.spliced_cons (thn (he.run pins s1 σ H1 _ I1 q') fun iv s2 z => ?_)))
  obtain ⟨y, H2, I2, ry, zz, ey, q2⟩ := z
  subst ey
  obtain ⟨t, rfl⟩ := ry
  refine Calls.spliced_cons (thn ((pe_int (X := X) (i := i) (j := k) (pos := p3)).run pins s2 σ H2 (fun y H3 => y = .int i ∧ H3 = H2) I2 ⟨rfl, rfl⟩) fun fv s3 z => ?_)
  obtain ⟨y, H3, I3, rz, ey, eH⟩ := z
  subst ey eH
  obtain ⟨t3, rfl⟩ := rz
  refine Calls.spliced_nil ?_
  have hm3 := PySem.W.mapOf_K (prog := X.prog) (w := X.w) I3.kIn hl hk
  refine call_meetsIn PySem.F.slot_dict_get hm3.typeIs PySem.F.entry_dict_get (PySem.F.args_dict_get_3 _ _ _) (meets_dict_get_default (PySem.strKind X.prog X.w) a (strKind_is X.prog X.w zz t) d.low (.int i t3)) ⟨_, hm3, ?_⟩
  rcases d.ns zz with ⟨j, u, a1, a2⟩ | ⟨a1, a2⟩
  · rw [PySem.W.find_K hl a2]
    rw [a1] at q2
    exact ⟨.int j, H3, I3.tok _, ⟨u, rfl⟩, q2⟩
  · rw [PySem.W.find_K hl a2]
    rw [a1] at q2
    exact ⟨.int i, H3, I3.tok _, ⟨t3, rfl⟩, q2⟩
/-- d.get(k, i), d a dict of written keys of our own: the kind c, its keys ks -/
@[simp] def fRget (c : Nat) (ks : List Str) (fo fk : FE) (i : Int) : FE := fun fm h => bindM (fo fm h) fun w h1 => match w with
  | .ref n => (match h1[n]? with
    | some (.pl (.rcd c' fs)) => if c' = c then bindM (fk fm h1) fun y h2 => (match y with
      | .str x => if h2[n]?.isSome = true ∧ fs.all flatW = true then (match h2[n]? with
        | some (.pl (.rcd c2 fs2)) => if c2 = c then some (.ok (((ks.zip fs2).lookup x).getD (.int i)), h2) else none
        | _ => none) else none
      | _ => none) else none
    | _ => none)
  | _ => none
theorem zipK_look {K : PySem.W.Frag} {ad : Nat → Option Addr} {H : Hp} {x : Str} : ∀ {ks : List Str} {fs : List W} {vs : List V}, RWs K ad H fs vs → ks.Nodup → fs.length = ks.length → (∀ w, (ks.zip fs).lookup x = some w → ∃ v, valV (zipK ks vs) (Sum.inr x) = some v ∧ RW K ad H w v) ∧ ((ks.zip fs).lookup x = none → valV (zipK ks vs) (Sum.inr x) = none)
  | [], _, _, _, _, _ => ⟨fun w z => by simp at z, fun _ => rfl⟩
  | k :: ks, [], _, .nil, _, hl => by simp at hl
  | k :: ks, w :: fs, _, .cons (v := v) (vs := vs) rw_ rr, nd, hl => by
    obtain ⟨i1, i2⟩ := zipK_look (x := x) rr (List.nodup_cons.mp nd).2 (by simpa using hl)
    have e : zipK (k :: ks) (v :: vs) = (Sum.inr k, v) :: zipK ks vs := rfl
    rw [e]
    cases q : (x == k) with
    | true =>
      have hx : x = k := beq_iff_eq.mp q
      subst hx
      have z1 : valV ((Sum.inr x, v) :: zipK ks vs) (Sum.inr x : Key) = some v := by simp [valV]
      refine ⟨fun w' z => ?_, fun z => ?_⟩
      · simp at z
        subst z
        exact ⟨v, z1, rw_⟩
      · simp at z
    | false =>
      have hx : x ≠ k := beq_eq_false_iff_ne.mp q
      have z1 : valV ((Sum.inr k, v) :: zipK ks vs) (Sum.inr x : Key) = valV (zipK ks vs) (Sum.inr x) := by
        simp [valV, Ne.symm hx]
      rw [z1]
      have z2 : ((k :: ks).zip (w :: fs)).lookup x = (ks.zip fs).lookup x := by simp [List.lookup, q]
      rw [z2]
      exact ⟨i1, i2⟩
theorem se_rget (c : Nat) {ks : List Str} {fk : FE} {i : Int} {k : Nat} {p3 : Pos} (hu : X.A.units + 1 < cLine) (hk : G.rk c = ks) (ho : SE G X Wx o fo) (he : SE G X Wx e fk) (m : M2 X o "get" apos e (.Constant (.int i) k p3) cpos) :
    SE G X Wx (.Call (.Attribute o "get" apos) [e, .Constant (.int i) k p3] [] cpos) (fRget c ks fo fk i) := by
  refine PEw (pe_dget2 hu ho he pe_int m) fun s H Q q => ?_
  obtain ⟨fm, h, r, h', io, e, E, S, p⟩ := q
  refine cG_step E S e p fun a h1 e1 io1 H1 v x1 E1 rv => ?_
  split at e1
  · rename_i n
    split at e1
    · rename_i c' fs hn
      split at e1
      · rename_i hc
        subst hc
        obtain ⟨a, rfl, ei, vs, hv, rvs, hl, nd⟩ := E1.ref hn rv
        refine ⟨a, rfl, .inl ⟨_, .inl hv⟩, ?_⟩
        refine cG_step E1 (S.ext x1) e1 (p.ext x1) fun y h2 e2 io2 H2 u x2 E2 ru => ?_
        split at e2
        · rename_i x
          split at e2
          · split at e2
            · rename_i c2 fs2 hn2
              split at e2
              · rename_i hc2
                subst hc2
                cases e2
                cases ru
                obtain ⟨a2, ea, ei2, vs2, hv2, rvs2, hl2, nd2⟩ := E2.ref hn2 (rv.ext x2)
                cases ea
                have g := DGet.k (k := Sum.inr x) hv2
                rw [hk] at g nd2 hl2
                obtain ⟨z1, z2⟩ := zipK_look (x := x) rvs2 nd2 hl2
                refine ⟨_, g, ?_⟩
                cases q : (ks.zip fs2).lookup x with
                | some w =>
                  rw [q] at p
                  obtain ⟨v2, e3, r3⟩ := z1 w q
                  rw [e3]
                  exact p io2 H2 (x1.trans x2) E2 _ r3
                | none =>
                  rw [q] at p
                  rw [z2 q]
                  exact p io2 H2 (x1.trans x2) E2 _ (.int _)
              · cases e2
            · cases e2
          · cases e2
        · cases e2
      · cases e1
    · cases e1
  · cases e1
/-! ### xs[::-1], xs[::2] -/
@[simp] def fRevR (f : FE) : FE := fun fm h => bindM (f fm h) fun w h1 => match lstAt h1 w with
  | some xs => some (.ok (.rl xs.reverse), h1)
  | none => none
theorem se_revR {k : Nat} {p1 p2 p3 : Pos} (hK : X.K = G.K) (he : SE G X Wx e f) : SE G X Wx (.Subscript e (.Slice none none (some (.UnaryOp .USub (.Constant (.int 1) k p1) p2)) p3) pos) (fRevR f) := by
  refine PEw (pe_fz (pe_revL he)) fun s H Q q => ?_
  obtain ⟨fm, h, r, h', io, e, E, S, p⟩ := q
  refine cG_step E S e p fun a h1 e1 io1 H1 v x1 E1 rv => ?_
  split at e1
  · rename_i xs e2
    cases e1
    obtain ⟨a, vs, rfl, hv, rvs⟩ := lstAt_r E1 e2 rv
    exact ⟨a, vs, rfl, by rw [hK]; exact hv, fun q nq => PostW.newR (fun io' H' x' E' => p io' H' (x1.trans x') E') E1 nq rvs.reverse⟩
  · cases e1
/-! ### try .. except PorchError as n -/
@[simp] def fTryAs (cat : Nat → Option Bool) (i : Nat) (fb : FSt) (fs : Nat → FSt) : FSt := fun fm h => match fb fm h with
  | some (.ex c, fm1, h1) => (match cat c with
    | some true => if i < fm1.length then (match fs c (fm1.set i none) h1 with
      | some (.rt w, fm2, h2) => some (.rt w, fm2.set i none, h2)
      | some (.nx, fm2, h2) => some (.nx, fm2.set i none, h2)
      | _ => none) else none
    | some false => some (.ex c, fm1, h1)
    | none => none)
  | r => r
def Gm.hold (G : Gm) (i : Nat) (a : Addr) : Gm := { G with pin := some (i, a) }
theorem Emb.hold {io : List (List Addr)} {h : VH} {H : Hp} {i : Nat} {a : Addr} : Emb (G.hold i a) io h H ↔ Emb G io h H := ⟨fun E => ⟨E.len, E.nd, fun n c e => E.at_ n c e⟩, fun E => ⟨E.len, E.nd, fun n c e => E.at_ n c e⟩⟩
theorem RSt.hold {ad : Nat → Option Addr} {H : Hp} {fm : Fm} {sr : L2.St} {i : Nat} {a : Addr} (r : RSt G ad H fm sr) (hi : i < fm.length) : RSt (G.hold i a) ad H (fm.set i none) (sr.set i (some (.ref a))) := by
  refine ⟨by simp [r.1], fun j w e => ?_, fun j b e => ?_⟩
  · by_cases q : i = j
    · subst q
      rw [List.getElem?_set_self hi] at e
      cases e
    · rw [List.getElem?_set_ne q] at e ⊢
      exact r.2.1 j w e
  · cases e
    exact List.getElem?_set_self (by rw [← r.1]; exact hi)
theorem RSt.drop {ad : Nat → Option Addr} {H : Hp} {fm : Fm} {sr : L2.St} {i : Nat} {a : Addr} (np : G.pin = none) (r : RSt (G.hold i a) ad H fm sr) : RSt G ad H (fm.set i none) (sr.set i none) := by
  refine ⟨by simp [r.1], fun j w e => ?_, fun j b e => by rw [np] at e; cases e⟩
  by_cases q : i = j
  · subst q
    by_cases hl : i < fm.length
    · rw [List.getElem?_set_self hl] at e; cases e
    · rw [List.getElem?_eq_none (by rw [List.length_set]; omega)] at e; cases e
  · rw [List.getElem?_set_ne q] at e ⊢
    exact r.2.1 j w e
theorem ss_tryAs {n : Str} {cv : Value} {body suite : List Stmt} {b0 : Stmt} {np pos' : Pos} {fb : FSt} {fsu : Nat → FSt} {cat : Nat → Option Bool} (i : Nat) (npin : G.pin = none) (hs : X.stack = X.env :: X.outer) (hf : X.env.frame = some X.env.locals) (hN : X.N.Nodup) (hi : X.N[i]? = some n) (hln : X.env.kindOf n = some .local)
    (hc : Names X x cv) (tk : L2N.Takes X Wx) (hcat : ∀ c b, cat c = some b → PySem.W.exmOne X.K (.ref (G.C c)) cv = some b)
    (hb : ∀ (W' : WX) (pn : List (Addr × Obj)) (xe : Value → Shared → Prop), L2N.Takes (X.tr pn xe) W' → PassesOwn (model X.prog X.w) X.A X.env xe → SSs G (X.tr pn xe) W' body fb)
    (hsu : ∀ (c : Nat) (a : Addr) (oe : Obj) (pn : List (Addr × Obj)), cat c = some true → L2N.Zn (.ref (G.C c)) none oe → (∃ vs, oe.data = .fields vs) → SSs (G.hold i a) (X.suite a ((a, oe) :: pn)) WF (b0 :: suite) (fsu c)) :
    SS G X Wx (.Try body [.ExceptHandler (some (.Name x np)) (some n) (b0 :: suite) pos'] [] [] pos) (fTryAs cat i fb fsu) := by
  have hsu' : ∀ (a : Addr) (oe : Obj) (cls : Value) (d : Option Addr) (pn : List (Addr × Obj)), L2N.Zn cls d oe → (∃ vs, oe.data = .fields vs) → PSs (X.suite a ((a, oe) :: pn)) (b0 :: suite) (fun D σ H => ∃ c, cls = .ref (G.C c) ∧ d = none ∧ cat c = some true ∧ cS (G.hold i a) WF (fsu c) D σ H) := fun a oe cls d pn hz hd => ⟨fun pins s σ H D I q => by
    obtain ⟨c, rfl, rfl, hcc, q⟩ := q
    exact (hsu c a oe pn hcc hz hd).run pins s σ H D I q⟩
  refine PSw (L2N.ps_try_as (i := i) (tb := fun W' => cS G W' fb) (ts := fun a cls d => fun D σ H => ∃ c, cls = .ref (G.C c) ∧ d = none ∧ cat c = some true ∧ cS (G.hold i a) WF (fsu c) D σ H) hs hf hN hi hln hc tk hb hsu') fun D s H q => ?_
  obtain ⟨fm, h, fl, fm', h', io, e, E, S, p⟩ := q
  unfold fTryAs at e
  split at e
  · rename_i c1 fm1 h1 e1
    refine cS_last E S e1 fun io1 H1 sr1 x1 E1 S1 => ?_
    split at e
    · rename_i ec
      refine ⟨true, hcat c1 true ec, fun _ a na => ⟨c1, rfl, rfl, ec, ?_⟩, fun z => absurd z (by decide)⟩
      split at e
      · rename_i hil
        split at e
        · rename_i w fm2 h2 e2
          cases e
          refine ⟨fm1.set i none, h1, _, fm2, _, io1, e2, Emb.hold.mpr E1, S1.hold hil, fun io2 H2 sr2 x2 E2 S2 => ?_⟩
          exact p io2 H2 (sr2.set i none) (x1.trans x2) (Emb.hold.mp E2) (S2.drop npin)
        · rename_i fm2 h2 e2
          cases e
          refine ⟨fm1.set i none, h1, _, fm2, _, io1, e2, Emb.hold.mpr E1, S1.hold hil, fun io2 H2 sr2 x2 E2 S2 => ?_⟩
          exact p io2 H2 (sr2.set i none) (x1.trans x2) (Emb.hold.mp E2) (S2.drop npin)
        · cases e
      · cases e
    · rename_i ec
      cases e
      exact ⟨false, hcat c1 false ec, fun z => absurd z (by decide), fun _ => p io1 H1 sr1 x1 E1 S1⟩
    · cases e
  · rename_i hne
    refine cS_last E S e fun io1 H1 sr1 x1 E1 S1 => ?_
    have z := p io1 H1 sr1 x1 E1 S1
    cases fl with
    | nx => exact z
    | rt w => exact z
    | bk => exact z
    | ct => exact z
    | ex c => exact (hne _ _ _ e).elim
/-- isinstance(n, T) of the error that is held -/
theorem se_isE {i : Nat} {a : Addr} {oe : Obj} {pn : List (Addr × Obj)} {c : Nat} {n tn : Str} {b : Bool} {cv : V} {cval : Value} {pe p2 : Pos} (C : ExcC X.K (G.C c)) (hz : Zc (.ref (G.C c)) none oe) (hf : ∃ vs, oe.data = .fields vs) (hg : Gl (X.suite a ((a, oe) :: pn)) "isinstance") (hm : X.mg "isinstance" = none)
    (hT : PE (X.suite a ((a, oe) :: pn)) (.Name tn p2) (tC cv)) (hcv : ∀ u, RelV cv u → u = cval) (hk : PySem.W.kitOne X.K (.ref (G.C c)) cval = some b)
    (hN : (X.suite a ((a, oe) :: pn)).N[i]? = some n := by rfl) (hv : Vis (X.suite a ((a, oe) :: pn)).env.scope n := by first | exact Or.inl rfl | exact Or.inr (Or.inl rfl) | exact Or.inr (Or.inr rfl)) (hd : (n == ("__debug__" : Str)) = false := by decide) (hcd : (n == ("__classdict__" : Str)) = false := by decide)
    (s1 : starEach [.Name n pe, .Name tn p2] (X.suite a ((a, oe) :: pn)).env = (false, eval (.Name n pe) (X.suite a ((a, oe) :: pn)).env) :: starEach [.Name tn p2] (X.suite a ((a, oe) :: pn)).env := by rfl) (hpl : (backTo pos (starEach [.Name tn p2] (X.suite a ((a, oe) :: pn)).env)).any (·.1) = false := by rfl) (s2 : starEach [.Name tn p2] (X.suite a ((a, oe) :: pn)).env = (false, eval (.Name tn p2) (X.suite a ((a, oe) :: pn)).env) :: starEach [] (X.suite a ((a, oe) :: pn)).env := by rfl) :
    SE (G.hold i a) (X.suite a ((a, oe) :: pn)) Wx (.Call (.Name "isinstance" p) [.Name n pe, .Name tn p2] [] pos) (fC (.bl b)) := by
  refine PEw (pe_callB (call_isE C hz hf) hg hm (by decide +kernel) (pa_cons (pe_var hN hv hd hcd) (pa_cons hT pa_nil s2) s1) (by decide) (by decide) s1 hpl) fun s H Q q => ?_
  obtain ⟨fm, h, r, h', io, e, E, S, p⟩ := q
  cases e
  refine ⟨.ref a, S.2.2 i a rfl, ?_⟩
  exact ⟨cv, cval, b, rfl, hcv, hk, p.now E (.bl b)⟩
end
end Tw

/-! stories as data -/
namespace Pr
open PySem PySem.Spec PyProof.Rows L2 Tw
def play (T : Tk) : List Deed → Nat → Tk × Option Nat
  | [], _ => (T, none)
  | d :: ds, i => match (T.act d).1 with
    | .ok _ => play (T.act d).2 ds (i + 1)
    | .ex _ => (T, some i)
theorem play_nil (T : Tk) (i : Nat) : play T [] i = (T, none) := rfl
theorem play_ok {T : Tk} {d : Deed} {x : W} (q : (T.act d).1 = .ok x) (ds : List Deed) (i : Nat) : play T (d :: ds) i = play (T.act d).2 ds (i + 1) := by
  rw [play, q]
theorem play_ex {T : Tk} {d : Deed} {c : Nat} (q : (T.act d).1 = .ex c) (ds : List Deed) (i : Nat) : play T (d :: ds) i = (T, some i) := by
  rw [play, q]
theorem play_good : ∀ (ds : List Deed) (i : Nat) {T : Tk} {N : Nat}, T.Good N → (play T ds i).1.Good (N + ds.length)
  | [], _, _, _, g => g
  | d :: ds, i, T, N, g => by
    unfold play
    split
    · exact (play_good ds (i + 1) (act_good g d)).mono (by simp only [List.length_cons]; omega)
    · exact g.mono (by omega)
theorem play_place : ∀ (ds : List Deed) (i j : Nat) (T : Tk), (play T ds i).2 = some j → i ≤ j ∧ j < i + ds.length
  | [], i, j, T, e => by cases e
  | d :: ds, i, j, T, e => by
    unfold play at e
    split at e
    · have := play_place ds (i + 1) j _ e
      simp only [List.length_cons]
      omega
    · cases e
      simp only [List.length_cons]
      omega
/-- a wrong word is heard -/
def wrong (T : Tk) : Bool := !decide (T.heard = T.said.take T.heard.length)
def fooled (m w l : Int) (ds : List Deed) : Bool := (play (Tk.fresh m w l) ds 0).2.isNone && wrong (play (Tk.fresh m w l) ds 0).1
/-! ### a story's list -/
def encS (ds : List Deed) : List W := ds.map Deed.enc
def enumL (xs : List W) : List W := (List.range xs.length).map fun i => .tup [.int (i : Nat), xs[i]?.getD .non]
theorem enumL_get (xs : List W) (i : Nat) : (enumL xs)[i]? = xs[i]?.map fun x => .tup [.int (i : Nat), x] := by
  unfold enumL
  rw [List.getElem?_map]
  by_cases q : i < xs.length
  · rw [List.getElem?_range q]
    simp [List.getElem?_eq_getElem q]
  · rw [List.getElem?_eq_none (by simpa using q), List.getElem?_eq_none (by omega)]; rfl
theorem enumL_len (xs : List W) : (enumL xs).length = xs.length := by simp [enumL]
/-- what enumerate walks -/
def enumSrc : W → Sc
  | .ref n => .enm n
  | .rl xs => .ven xs
  | _ => .rng 0 0
theorem enum_ok {s : W} {xs : List W} {h : VH} (e : lstAt h s = some xs) (f : FE) (fm : Fm) (h0 : VH) (ef : f fm h0 = some (.ok s, h)) : fIe f fm h0 = some (.ok (enumSrc s), h) := by
  unfold fIe
  rw [ef]
  cases s with
  | ref n => simp only [Tw.bindM, e, enumSrc]
  | rl ys => simp only [Tw.bindM, enumSrc]
  | _ => simp [lstAt] at e
theorem enum_cnt {s : W} {xs : List W} {h : VH} (e : lstAt h s = some xs) : (enumSrc s).cnt h = (enumL xs).length := by
  rw [enumL_len]
  cases s with
  | ref n => simp only [enumSrc, Sc.cnt, e]
  | rl ys =>
    have : ys = xs := by simpa [lstAt] using e
    subst this
    rfl
  | _ => simp [lstAt] at e
theorem enum_nx {s : W} {xs : List W} {h : VH} (e : lstAt h s = some xs) (i : Nat) : (enumSrc s).nx h i = some (enumL xs)[i]? := by
  rw [enumL_get]
  cases s with
  | ref n =>
    simp only [enumSrc, Sc.nx, e]
    cases xs[i]? <;> rfl
  | rl ys =>
    have : ys = xs := by simpa [lstAt] using e
    subst this
    simp only [enumSrc, Sc.nx]
    cases ys[i]? <;> rfl
  | _ => simp [lstAt] at e
theorem lstAt_app {s : W} {xs : List W} {h : VH} (e : lstAt h s = some xs) (g : VH) : lstAt (h ++ g) s = some xs := by
  cases s with
  | ref n =>
    have hn : n < h.length := by
      by_cases q : n < h.length
      · exact q
      · simp [lstAt, List.getElem?_eq_none (show h.length ≤ n by omega)] at e
    simp only [lstAt] at e ⊢
    rw [List.getElem?_append_left hn]
    exact e
  | rl ys => simpa [lstAt] using e
  | _ => simp [lstAt] at e
theorem encS_get (ds : List Deed) (i : Nat) : (encS ds)[i]? = ds[i]?.map Deed.enc := by simp [encS]
/-- what a for walks -/
def listSrc : W → Sc
  | .ref n => .lst n
  | .rl xs => .vls xs
  | _ => .rng 0 0
theorem list_ok {s : W} {xs : List W} {h : VH} (e : lstAt h s = some xs) (f : FE) (fm : Fm) (h0 : VH) (ef : f fm h0 = some (.ok s, h)) : fIl f fm h0 = some (.ok (listSrc s), h) := by
  unfold fIl
  rw [ef]
  cases s with
  | ref n => simp only [Tw.bindM, e, listSrc]
  | rl ys => simp only [Tw.bindM, listSrc]
  | _ => simp [lstAt] at e
theorem list_cnt {s : W} {xs : List W} {h : VH} (e : lstAt h s = some xs) : (listSrc s).cnt h = xs.length := by
  cases s with
  | ref n => simp only [listSrc, Sc.cnt, e]
  | rl ys =>
    have : ys = xs := by simpa [lstAt] using e
    subst this
    rfl
  | _ => simp [lstAt] at e
theorem list_nx {s : W} {xs : List W} {h : VH} (e : lstAt h s = some xs) (i : Nat) : (listSrc s).nx h i = some xs[i]? := by
  cases s with
  | ref n => simp only [listSrc, Sc.nx, e]
  | rl ys =>
    have : ys = xs := by simpa [lstAt] using e
    subst this
    rfl
  | _ => simp [lstAt] at e
theorem blsW_trues {A : Type} : ∀ xs : List A, blsW (xs.map fun _ => W.bl true) = some (xs.map fun _ => true)
  | [] => rfl
  | x :: xs => by simp [blsW, blsW_trues xs]
/-- all([.. for ..]), each True -/
theorem all_comp {A : Type} (enc : A → W) (xs : List A) {h : VH} {src : Sc} {i0 : Nat} {fi : FI} {fe : FE} {fm : Fm} (hf : fi fm h = some (.ok src, h)) (hx : xs.length < sizeLine) (hc : src.cnt h = xs.length)
    (hn : ∀ j, src.nx h j = some ((xs.map enc)[j]?)) (he : ∀ a ∈ xs, fe ((wipeV fm [i0]).set i0 (some (enc a))) h = some (.ok (.bl true), h)) :
    fCB gAll [fLcR fi i0 [i0] fYes fe] fm h = some (.ok (.bl true), h) := by
  have := fLcR_run (ft := fYes) enc (fun _ => true) (fun _ => W.bl true) xs hf hx hc hn (fun a _ => rfl) (fun a ha _ => he a ha)
  rw [List.filter_eq_self.mpr (fun _ _ => rfl)] at this
  generalize fLcR fi i0 [i0] fYes fe = f at this ⊢
  simp only [fCB, fAll, this, Tw.bindM, Tw.retM, gAll, seqAt, lstAt, blsW_trues]
  simp
end Pr

/-! a held box opened: its objects are cells of their own from now on -/
namespace Tw
open PySem PySem.Spec PyProof.Rows L2
def openH (h : VH) (n : Nat) (T : Tk) : VH := h.set n (.pl (.rcd 0 [.tup [.int T.marks, .int T.window, .int T.life], .ref h.length, .int T.known, .ref (h.length + 1), .ref (h.length + 2), .ref (h.length + 3), .ref (h.length + 6), .int T.now, .int T.last])) ++
  [.pl (.lst (T.said.map W.int)), .pl (.lst (T.heard.map W.int)), .pl (.dct (encE T.early)), .pl (.lst [.ref (h.length + 4), .ref (h.length + 5)]), .pl (.lst (encR T.r0)), .pl (.lst (encR T.r1)), .pl (.lst [.bl T.u0, .bl T.u1])]
section
variable {G : Gm} {io : List (List Addr)} {h : VH} {H : Hp} {n : Nat} {T : Tk}
theorem kvR_encE {K : PySem.W.Frag} {ad ad' : Nat → Option Addr} : ∀ {e : List (Int × Int)} {k' : List (Key × V)}, kvR K ad H (encE e) k' → kvR K ad' H (encE e) k'
  | [], _, .nil => .nil
  | p :: r, _, .cons z t => .cons ⟨z.1, (NoR.int p.2).rel z.2⟩ (kvR_encE t)
theorem Emb.openH (E : Emb G io h H) (e : h[n]? = some (.hd T)) : ∃ io', Ext io H io' H ∧ Emb G io' (openH h n T) H := by
  obtain ⟨l, el, bl⟩ := E.at_ n _ e
  have b0 : BoxR G H l (canH T) := bl
  have len : l.length = 8 := b0.1
  match l, len, el, b0 with
  | [a0, a1, a2, a3, a4, a5, a6, a7], _, el, b0 =>
    have hn : n < io.length := (List.getElem?_eq_some_iff.mp el).1
    have hnh : n < h.length := (List.getElem?_eq_some_iff.mp e).1
    let io' := io.set n [a0] ++ [[a1], [a2], [a3], [a4], [a5], [a6], [a7]]
    have hl : (io.set n [a0]).length = h.length := by rw [List.length_set, E.len]
    have adn : ∀ k x, [a1, a2, a3, a4, a5, a6, a7][k]? = some x → io'[h.length + k]? = some [x] := fun k x z => by
      show (io.set n [a0] ++ [[a1], [a2], [a3], [a4], [a5], [a6], [a7]])[h.length + k]? = _
      rw [List.getElem?_append_right (by omega), hl, Nat.add_sub_cancel_left]
      have : [[a1], [a2], [a3], [a4], [a5], [a6], [a7]] = [a1, a2, a3, a4, a5, a6, a7].map fun q => [q] := rfl
      rw [this, List.getElem?_map, z]
      rfl
    have adN : ∀ k x, [a1, a2, a3, a4, a5, a6, a7][k]? = some x → adr io' (h.length + k) = some x := fun k x z => by
      unfold adr
      rw [adn k x z]
      rfl
    have old : ∀ m lm, m ≠ n → io[m]? = some lm → io'[m]? = some lm := fun m lm q z => by
      show (io.set n [a0] ++ [[a1], [a2], [a3], [a4], [a5], [a6], [a7]])[m]? = _
      have hm : m < io.length := (List.getElem?_eq_some_iff.mp z).1
      rw [List.getElem?_append_left (by rw [List.length_set]; exact hm), List.getElem?_set_ne (Ne.symm q)]
      exact z
    have atn : io'[n]? = some [a0] := by
      show (io.set n [a0] ++ [[a1], [a2], [a3], [a4], [a5], [a6], [a7]])[n]? = _
      rw [List.getElem?_append_left (by rw [List.length_set]; exact hn), List.getElem?_set_self hn]
    have root : ∀ m a, adr io m = some a → adr io' m = some a := fun m a z => by
      unfold adr at z ⊢
      by_cases q : m = n
      · subst q
        rw [el] at z
        rw [atn]
        exact z
      · cases y : io[m]? with
        | none => rw [y] at z; cases z
        | some lm =>
          rw [y] at z
          rw [old m lm q y]
          exact z
    have fl : ∀ a, a ∈ io'.flatten → a ∈ io.flatten := fun a ha => by
      obtain ⟨lm, h1, h2⟩ := List.mem_flatten.mp ha
      rcases List.mem_append.mp (show lm ∈ io.set n [a0] ++ [[a1], [a2], [a3], [a4], [a5], [a6], [a7]] from h1) with z | z
      · rcases List.mem_or_eq_of_mem_set z with y | y
        · exact List.mem_flatten.mpr ⟨lm, y, h2⟩
        · subst y
          exact mem_flat el (by simp at h2; simp [h2])
      · refine mem_flat el ?_
        simp at z
        rcases z with rfl | rfl | rfl | rfl | rfl | rfl | rfl <;> · simp at h2; simp [h2]
    have nl : [a0, a1, a2, a3, a4, a5, a6, a7].Nodup := sub_nodup E.nd el
    refine ⟨io', ⟨root, fun a ha => .inl (fl a ha), fun a o e _ => e, fun a e => e, fun a o e _ => e⟩, ⟨?_, ?_, fun m c em => ?_⟩⟩
    · show (io.set n [a0] ++ [[a1], [a2], [a3], [a4], [a5], [a6], [a7]]).length = (Tw.openH h n T).length
      simp [Tw.openH, E.len]
    · show (io.set n [a0] ++ [[a1], [a2], [a3], [a4], [a5], [a6], [a7]]).flatten.Nodup
      have n1 : (io.set n [a0]).flatten.Nodup := nodup_set E.nd (by simp) fun m l' hm em a ha z => by
        simp at ha
        subst ha
        exact nodup_flat_ne E.nd em el hm z List.mem_cons_self
      rw [List.flatten_append, List.nodup_append]
      have n7 : [a1, a2, a3, a4, a5, a6, a7].Nodup := (List.nodup_cons.mp nl).2
      have n0 : a0 ∉ [a1, a2, a3, a4, a5, a6, a7] := (List.nodup_cons.mp nl).1
      refine ⟨n1, by simpa using n7, fun a ha b hb z => ?_⟩
      subst z
      have hb' : a ∈ [a1, a2, a3, a4, a5, a6, a7] := by simpa using hb
      rcases mem_set_flat ha with y | ⟨m, l', hm, em, y⟩
      · simp at y
        subst y
        exact n0 hb'
      · exact nodup_flat_ne E.nd em el hm y (List.mem_cons_of_mem _ hb')
    · have box : ∀ i o, (canH T)[i]? = some o → ∃ a, [a0, a1, a2, a3, a4, a5, a6, a7][i]? = some a ∧ ObjR G (fun m => [a0, a1, a2, a3, a4, a5, a6, a7][m]?) H a o := b0.2
      by_cases q : m < h.length
      · have em' : (h.set n (.pl (.rcd 0 [.tup [.int T.marks, .int T.window, .int T.life], .ref h.length, .int T.known, .ref (h.length + 1), .ref (h.length + 2), .ref (h.length + 3), .ref (h.length + 6), .int T.now, .int T.last])))[m]? = some c := by
          unfold Tw.openH at em
          rw [List.getElem?_append_left (by rw [List.length_set]; exact q)] at em
          exact em
        by_cases qn : m = n
        · subst qn
          rw [List.getElem?_set_self hnh] at em'
          cases em'
          refine ⟨[a0], atn, a0, rfl, ?_⟩
          obtain ⟨a, ea, vs, hv, rvs, hk, nd⟩ := box 0 _ rfl
          cases ea
          refine ⟨vs, hv, ?_, hk, nd⟩
          cases rvs with | cons r0 t0 =>
          cases t0 with | cons r1 t1 =>
          cases t1 with | cons r2 t2 =>
          cases t2 with | cons r3 t3 =>
          cases t3 with | cons r4 t4 =>
          cases t4 with | cons r5 t5 =>
          cases t5 with | cons r6 t6 =>
          cases t6 with | cons r7 t7 =>
          cases t7 with | cons r8 t8 =>
          cases t8
          cases r1 with | ref y1 =>
          cases r3 with | ref y3 =>
          cases r4 with | ref y4 =>
          cases r5 with | ref y5 =>
          cases r6 with | ref y6 =>
          cases y1; cases y3; cases y4; cases y5; cases y6
          exact .cons ((NoR.tup (.cons (.int _) (.cons (.int _) (.cons (.int _) .nil)))).rel r0) (.cons (.ref (adN 0 _ rfl)) (.cons ((NoR.int _).rel r2) (.cons (.ref (adN 1 _ rfl)) (.cons (.ref (adN 2 _ rfl)) (.cons (.ref (adN 3 _ rfl)) (.cons (.ref (adN 6 _ rfl)) (.cons ((NoR.int _).rel r7) (.cons ((NoR.int _).rel r8) .nil))))))))
        · rw [List.getElem?_set_ne (Ne.symm qn)] at em'
          obtain ⟨lm, elm, r⟩ := E.at_ m c em'
          exact ⟨lm, old m lm qn elm, r.mono root (fun _ _ z _ => z) fun _ _ _ z => z⟩
      · obtain ⟨k, rfl⟩ : ∃ k, m = h.length + k := ⟨m - h.length, by omega⟩
        unfold Tw.openH at em
        rw [List.getElem?_append_right (by rw [List.length_set]; omega), List.length_set, Nat.add_sub_cancel_left] at em
        match k, em with
        | 0, em =>
          cases em
          obtain ⟨a, ea, vs, hv, rvs⟩ := box 1 _ rfl
          cases ea
          exact ⟨_, adn 0 _ rfl, _, rfl, vs, hv, (noRs_ints _).rel rvs⟩
        | 1, em =>
          cases em
          obtain ⟨a, ea, vs, hv, rvs⟩ := box 2 _ rfl
          cases ea
          exact ⟨_, adn 1 _ rfl, _, rfl, vs, hv, (noRs_ints _).rel rvs⟩
        | 2, em =>
          cases em
          obtain ⟨a, ea, vs, hv, rvs⟩ := box 3 _ rfl
          cases ea
          exact ⟨_, adn 2 _ rfl, _, rfl, vs, hv, kvR_encE rvs⟩
        | 3, em =>
          cases em
          obtain ⟨a, ea, vs, hv, rvs⟩ := box 4 _ rfl
          cases ea
          cases rvs with | cons r1 t1 =>
          cases t1 with | cons r2 t2 =>
          cases t2
          cases r1 with | ref y1 =>
          cases r2 with | ref y2 =>
          cases y1; cases y2
          exact ⟨_, adn 3 _ rfl, _, rfl, _, hv, .cons (.ref (adN 4 _ rfl)) (.cons (.ref (adN 5 _ rfl)) .nil)⟩
        | 4, em =>
          cases em
          obtain ⟨a, ea, vs, hv, rvs⟩ := box 5 _ rfl
          cases ea
          exact ⟨_, adn 4 _ rfl, _, rfl, vs, hv, (noRs_encR _).rel rvs⟩
        | 5, em =>
          cases em
          obtain ⟨a, ea, vs, hv, rvs⟩ := box 6 _ rfl
          cases ea
          exact ⟨_, adn 5 _ rfl, _, rfl, vs, hv, (noRs_encR _).rel rvs⟩
        | 6, em =>
          cases em
          obtain ⟨a, ea, vs, hv, rvs⟩ := box 7 _ rfl
          cases ea
          exact ⟨_, adn 6 _ rfl, _, rfl, vs, hv, (NoRs.cons (.bl _) (.cons (.bl _) .nil)).rel rvs⟩
        | k + 7, em => simp at em
end
section
variable {G : Gm} {X : Cx} {Wx : WX} {o : Expr} {fo : FE} {pos : Pos}
/-- o["key"] of a held box or an open record -/
@[simp] def fRixB (d j : Nat) (fo : FE) : FE := fun fm h => bindM (fo fm h) fun w h1 => match w with
  | .ref n => (match h1[n]? with
    | some (.hd T) => fRix d j (fC (.ref n)) fm (openH h1 n T)
    | _ => fRix d j (fC (.ref n)) fm h1)
  | _ => none
theorem se_rixB (d j : Nat) {x : Str} {k : Nat} {p1 : Pos} (hu : X.A.units + 1 < cLine) (hx : (G.rk d)[j]? = some x) (ho : SE G X Wx o fo) : SE G X Wx (.Subscript o (.Constant (.str x) k p1) pos) (fRixB d j fo) := by
  refine PEw (pe_dget hu ho pe_str (fun _ _ => rfl)) fun s H Q q => ?_
  obtain ⟨fm, h, r, h', io, e, E, S, p⟩ := q
  refine cG_step E S e p fun a h1 e1 io1 H1 v x1 E1 rv => ?_
  have key : ∀ (n : Nat) (hx1 : VH) (iox : List (List Addr)), fRix d j (fC (.ref n)) fm hx1 = some (r, h') → Ext io1 H1 iox H1 → Emb G iox hx1 H1 → RW G.K (adr iox) H1 (.ref n) v → ∃ a v', v = .ref a ∧ DGet H1 a (.str x) (some v') ∧ Q v' H1 := fun n hx1 iox e2 x2 E2 rv2 => by
    unfold fRix fC at e2
    simp only [bindM] at e2
    split at e2
    · rename_i d' fs hn
      split at e2
      · rename_i hd
        subst hd
        split at e2
        · rename_i w hw
          cases e2
          obtain ⟨a, rfl, ei, vs, hv, rvs, hl, nd⟩ := E2.ref hn rv2
          obtain ⟨u, hu', ru⟩ := rvs.get hw
          have g := DGet.k (k := Sum.inr x) hv
          rw [zipK_val nd hx, hu'] at g
          exact ⟨a, u, rfl, g, p iox H1 (x1.trans x2) E2 _ ru⟩
        · cases e2
      · cases e2
    · cases e2
  split at e1
  · rename_i n
    split at e1
    · rename_i T hT
      obtain ⟨io', x2, E2⟩ := E1.openH hT
      exact key n _ io' e1 x2 E2 (rv.ext x2)
    · exact key n _ io1 e1 Ext.refl E1 rv
  · cases e1
/-! ### xs[::2] -/
def idx2 (n : Nat) : List Nat := sliceRange (sliceBounds none none (some 2) n).1 (sliceBounds none none (some 2) n).2.1 (sliceBounds none none (some 2) n).2.2
def oddW {A : Type} (xs : List A) : List A := (idx2 xs.length).filterMap (xs[·]?)
theorem RWs.pick {K : PySem.W.Frag} {ad : Nat → Option Addr} {H : Hp} {xs : List W} {vs : List V} (r : RWs K ad H xs vs) : ∀ l : List Nat, RWs K ad H (l.filterMap (xs[·]?)) (l.filterMap (vs[·]?))
  | [] => .nil
  | i :: l => by
    cases q : xs[i]? with
    | some w =>
      obtain ⟨v, h1, h2⟩ := r.get q
      rw [List.filterMap_cons_some q, List.filterMap_cons_some h1]
      exact .cons h2 (RWs.pick r l)
    | none =>
      have : vs[i]? = none := by
        rw [List.getElem?_eq_none_iff] at q ⊢
        rw [← r.length]; exact q
      rw [List.filterMap_cons_none q, List.filterMap_cons_none this]
      exact RWs.pick r l
theorem Vals.pick {xs : List V} {us : List Value} (r : Vals xs us) : ∀ l : List Nat, Vals (l.filterMap (xs[·]?)) (l.filterMap (us[·]?))
  | [] => .nil
  | i :: l => by
    cases q : xs[i]? with
    | some w =>
      obtain ⟨v, h1, h2⟩ := r.get q
      rw [List.filterMap_cons_some q, List.filterMap_cons_some h1]
      exact .cons h2 (Vals.pick r l)
    | none =>
      have : us[i]? = none := by
        rw [List.getElem?_eq_none_iff] at q ⊢
        rw [← r.length]; exact q
      rw [List.filterMap_cons_none q, List.filterMap_cons_none this]
      exact Vals.pick r l
def tOddL (K : PySem.W.Frag) (te : TE) : TE := fun σ H Q => te σ H fun x H1 => ∃ a xs, x = .ref a ∧ SqL K H1 a xs ∧ (oddW xs).length ≤ sizeLine ∧ ∀ p, H1 p = none → Q (.ref p) (upd H1 p (.lst (oddW xs)))
theorem pe_oddL {e : Expr} {te : TE} {k : Nat} {p1 p3 pos : Pos} (he : PE X e te) : PE X (.Subscript e (.Slice none none (some (.Constant (.int 2) k p1)) p3) pos) (tOddL X.K te) := by
  refine ⟨fun pins s σ H Q I h => ?_⟩
  refine Subscript_ (thn (he.run pins s σ H _ I h) fun v s1 ⟨x, H1, I1, r1, q1⟩ => ?_)
  obtain ⟨a, xs, ex, hx, ho, q⟩ := q1
  subst ex
  cases r1
  have hst : PO X (some (.Constant (.int 2) k p1)) (tPart (tC (.int 2))) := po_some pe_int
  refine wpAny_Slice (thn (po_none.run pins s1 σ H1 (fun o H2 => o = none ∧ H2 = H1) I1 ⟨rfl, rfl⟩) fun vl s2 ⟨l, H2, I2, pl, el, e2⟩ => ?_)
  subst el e2
  refine thn (po_none.run pins s2 σ H2 (fun o H3 => o = none ∧ H3 = H2) I2 ⟨rfl, rfl⟩) fun vu s3 ⟨u, H3, I3, pu, eu, e3⟩ => ?_
  subst eu e3
  refine thn (hst.run pins s3 σ H3 (fun o H4 => o = some 2 ∧ H4 = H3) I3 ⟨2, rfl, rfl, rfl⟩) fun vs s4 ⟨o, H4, I4, ps, eo, e4⟩ => ?_
  subst eo e4
  have I5 : Inv X pins σ H4 { s4 with heap := s4.heap.push { cls := .type "slice", data := .fields #[vl, vu, vs] } } := I4.kept (t' := s4.toks) fun b ob q => Heap.get?_push_of_some _ q
  obtain ⟨its, r, ht, hz⟩ := I5.list hx
  have hlen := r.length
  show wpAny (model X.prog X.w) X.A (subscriptTail e (.Slice none none (some (.Constant (.int 2) k p1)) p3) (.ref a) (.ref s4.heap.objs.size)) (EP X pins σ Q) X.xe { s4 with heap := s4.heap.push { cls := .type "slice", data := .fields #[vl, vu, vs] } }
  refine tail_any (ops := [.ref a, .ref s4.heap.objs.size]) ht.isList.typeIs (PySem.slot_list_getitem.lookup) ?_ (by with_unfolding_all rfl)
  refine wpAny_getItem_list_slice ht.isList (Heap.IsSliceOf.new _ vl vu vs) pl pu ps (by decide) ?_ (by rw [List.size_toArray]; omega)
  have ep : slicePick its.toArray none none (some 2) = ((idx2 xs.length).filterMap (its[·]?)).toArray := by
    unfold slicePick idx2
    rw [List.size_toArray, ← hlen]
    simp
  rw [ep]
  refine ⟨.ref _, _, I5.laid (t' := s4.toks) (o := .lst (oddW xs)) (fun b ob q => Heap.get?_push_of_some _ q) (Nat.le_refl _) ?_, rfl, q _ (I5.hok.fresh (Nat.le_refl _))⟩
  exact ⟨ho, _, 0, Tw.Vals.pick r _, Heap.get?_push_size _ rfl⟩
@[simp] def fOddR (f : FE) : FE := fun fm h => bindM (f fm h) fun w h1 => match lstAt h1 w with
  | some xs => if (oddW xs).length ≤ sizeLine then some (.ok (.rl (oddW xs)), h1) else none
  | none => none
theorem se_oddR {e : Expr} {f : FE} {k : Nat} {p1 p3 : Pos} (hK : X.K = G.K) (he : SE G X Wx e f) : SE G X Wx (.Subscript e (.Slice none none (some (.Constant (.int 2) k p1)) p3) pos) (fOddR f) := by
  refine PEw (pe_fz (pe_oddL he)) fun s H Q q => ?_
  obtain ⟨fm, h, r, h', io, e, E, S, p⟩ := q
  refine cG_step E S e p fun a h1 e1 io1 H1 v x1 E1 rv => ?_
  split at e1
  · rename_i xs e2
    split at e1
    · rename_i hl
      cases e1
      obtain ⟨a, vs, rfl, hv, rvs⟩ := lstAt_r E1 e2 rv
      have ev : RWs G.K (adr io1) H1 (oddW xs) (oddW vs) := by
        unfold oddW
        rw [← rvs.length]
        exact rvs.pick _
      exact ⟨a, vs, rfl, by rw [hK]; exact hv, by rw [← ev.length]; exact hl, fun q nq => PostW.newR (fun io' H' x' E' => p io' H' (x1.trans x') E') E1 nq ev⟩
    · cases e1
  · cases e1
end
end Tw

/-! catching up: with marks enough all that is said is heard and known -/
namespace Tw
open PySem L2
/-- all but what is heard, kept early and known stays -/
structure Tk.Sib (T U : Tk) : Prop where
  said : U.said = T.said
  marks : U.marks = T.marks
  window : U.window = T.window
  life : U.life = T.life
  now : U.now = T.now
  last : U.last = T.last
  r0 : U.r0 = T.r0
  r1 : U.r1 = T.r1
  u0 : U.u0 = T.u0
  u1 : U.u1 = T.u1
theorem Tk.Sib.rfl {T : Tk} : T.Sib T := ⟨_root_.rfl, _root_.rfl, _root_.rfl, _root_.rfl, _root_.rfl, _root_.rfl, _root_.rfl, _root_.rfl, _root_.rfl, _root_.rfl⟩
theorem Tk.Sib.trans {T U V : Tk} (a : T.Sib U) (b : U.Sib V) : T.Sib V :=
  ⟨b.said.trans a.said, b.marks.trans a.marks, b.window.trans a.window, b.life.trans a.life, b.now.trans a.now, b.last.trans a.last, b.r0.trans a.r0, b.r1.trans a.r1, b.u0.trans a.u0, b.u1.trans a.u1⟩
theorem arrive_sib (T : Tk) (l : Ltr) : T.Sib (T.arrive l).2 := by
  unfold Tk.arrive
  cases l with
  | ans m =>
    dsimp only
    split <;> exact ⟨rfl, rfl, rfl, rfl, rfl, rfl, rfl, rfl, rfl, rfl⟩
  | ltr m w =>
    dsimp only
    split
    · exact Tk.Sib.rfl
    · split <;> exact ⟨rfl, rfl, rfl, rfl, rfl, rfl, rfl, rfl, rfl, rfl⟩
theorem arrive_ltr_known (T : Tk) (m w : Int) : (T.arrive (.ltr m w)).2.known = T.known := by
  unfold Tk.arrive
  dsimp only
  split
  · rfl
  · split <;> rfl
theorem dgetI_app_none {k w : Int} : ∀ {l : List (Int × Int)}, dgetI k l = none → dgetI k (l ++ [(k, w)]) = some w
  | [], _ => by simp [dgetI]
  | p :: r, e => by
    unfold dgetI at e
    split at e
    · cases e
    · rename_i q
      show dgetI k (p :: (r ++ [(k, w)])) = some w
      unfold dgetI
      rw [if_neg q]
      exact dgetI_app_none e
theorem dgetI_gt {k : Int} : ∀ {l : List (Int × Int)}, (∀ p ∈ l, k < p.1) → dgetI k l = none
  | [], _ => rfl
  | p :: r, h => by
    unfold dgetI
    have := h p List.mem_cons_self
    rw [if_neg (by omega)]
    exact dgetI_gt fun q hq => h q (List.mem_cons_of_mem _ hq)
theorem Tk.Safe.hear {T : Tk} (s : T.Safe) {n : Int} (h0 : T.known ≤ n) (h1 : n < T.said.length) (h2 : n ≤ T.heard.length) : (T.hear n).Safe ∧ T.Sib (T.hear n) ∧ (T.hear n).known = T.known ∧ n + 1 ≤ (T.hear n).heard.length := by
  refine ⟨s.arrive (s.okLtr h0 h1), arrive_sib _ _, arrive_ltr_known _ _ _, ?_⟩
  have mw := s.mw
  have w1 := s.w1
  have l1 := s.l1
  have k0 := s.k0
  have hl := s.hl
  have win := s.win
  have mp : 0 < T.marks := by omega
  unfold Tk.hear Tk.arrive Tk.ltrOf
  dsimp only
  have em : (n % T.marks - T.heard.length) % T.marks = (n - T.heard.length) % T.marks := by rw [Int.emod_sub_emod]
  by_cases q : n = T.heard.length
  · have e0 : (n % T.marks - T.heard.length) % T.marks = 0 := by rw [em, q, Int.sub_self, Int.zero_emod]
    have dn : dgetI T.heard.length T.early = none := dgetI_gt fun p hp => (s.ear p hp).1
    rw [e0, if_neg (by omega), Int.add_zero, dn, if_neg (by simp)]
    dsimp only
    rw [drain, dgetI_app_none dn]
    dsimp only
    have := drain_len T.early.length (T.heard ++ [T.saidAt n]) (ddropI T.heard.length (T.early ++ [((T.heard.length : Int), T.saidAt n)]))
    rw [List.length_append, List.length_singleton] at this
    omega
  · have e0 : (n % T.marks - T.heard.length) % T.marks = n - T.heard.length + T.marks := by
      rw [em, ← Int.add_emod_right]
      exact Int.emod_eq_of_lt (by omega) (by omega)
    rw [e0, if_pos (by omega)]
    dsimp only
    omega
theorem hear_all : ∀ (k : Nat) (T : Tk) (n : Int), T.Safe → T.known ≤ n → n + k = T.said.length → n ≤ T.heard.length →
    (((List.range' 0 k).map fun i : Nat => n + i).foldl Tk.hear T).Safe ∧ T.Sib (((List.range' 0 k).map fun i : Nat => n + i).foldl Tk.hear T) ∧ (((List.range' 0 k).map fun i : Nat => n + i).foldl Tk.hear T).known = T.known ∧ (T.said.length : Int) ≤ (((List.range' 0 k).map fun i : Nat => n + i).foldl Tk.hear T).heard.length
  | 0, T, n, s, _, e, h => ⟨s, Tk.Sib.rfl, rfl, by
    show (T.said.length : Int) ≤ T.heard.length
    omega⟩
  | k + 1, T, n, s, hk, e, h => by
    obtain ⟨a1, a2, a3, a4⟩ := s.hear hk (by omega) h
    have el : ((List.range' 0 (k + 1)).map fun i : Nat => n + i) = n :: (List.range' 0 k).map fun i : Nat => n + 1 + i := by
      rw [List.range'_succ, List.map_cons, Nat.zero_add, List.range'_eq_map_range, List.range'_eq_map_range, List.map_map, List.map_map]
      congr 1
      · simp
      · refine List.map_congr_left fun i _ => ?_
        show n + ((1 + i : Nat) : Int) = n + 1 + ((0 + i : Nat) : Int)
        omega
    rw [el, List.foldl_cons]
    obtain ⟨b1, b2, b3, b4⟩ := hear_all k (T.hear n) (n + 1) a1 (by rw [a3]; omega) (by rw [a2.said]; omega) a4
    rw [a2.said] at b4
    exact ⟨b1, a2.trans b2, b3.trans a3, b4⟩
theorem Tk.Safe.caught {T : Tk} (s : T.Safe) : T.caught.Safe ∧ T.Sib T.caught ∧ T.caught.heard = T.said ∧ T.caught.known = T.said.length := by
  have k0 := s.k0
  have kh := s.kh
  have hl := s.hl
  have el : T.left = (List.range' 0 (T.said.length - T.known).toNat).map fun i : Nat => T.known + i := by
    unfold Tk.left
    rw [List.range_eq_range']
  obtain ⟨a1, a2, a3, a4⟩ := hear_all (T.said.length - T.known).toNat T T.known s (Int.le_refl _) (by omega) kh
  have key : T.caught = ((T.left.foldl Tk.hear T).arrive (T.left.foldl Tk.hear T).ansOf).2 := rfl
  rw [el] at key
  rw [key]
  generalize ((List.range' 0 (T.said.length - T.known).toNat).map fun i : Nat => T.known + i).foldl Tk.hear T = U at *
  have hs := a1.hs
  have hlU := a1.hl
  rw [a2.said] at hs hlU
  have eh : U.heard.length = T.said.length := by omega
  have eH : U.heard = T.said := by rw [hs, eh]; simp
  have b1 := a1.arrive a1.okAns
  have b2 := a2.trans (arrive_sib U U.ansOf)
  have mw := a1.mw
  have w1 := a1.w1
  have l1 := a1.l1
  have kU := a1.k0
  have khU := a1.kh
  have win := a1.win
  rw [a2.said] at win
  have em : (U.heard.length % U.marks - U.known) % U.marks = U.heard.length - U.known := by
    rw [Int.emod_sub_emod]
    exact Int.emod_eq_of_lt (by omega) (by omega)
  have ea : (U.arrive U.ansOf).2 = { U with known := U.known + (U.heard.length - U.known) } := by
    unfold Tk.arrive Tk.ansOf
    dsimp only
    rw [em, if_pos (by rw [a2.said]; omega)]
  rw [ea] at b1 b2 ⊢
  refine ⟨b1, b2, eH, ?_⟩
  show U.known + ((U.heard.length : Int) - U.known) = _
  omega
/-- a def that never answers -/
theorem fnV_none {G : Gm} {P : Program} {w : World} {K : PySem.W.Frag} {mg : Str → Option Value} {base : Heap} {k : Nat} {f : Addr} {fd : FuncData} {ps : List Str} {F : Fn} (h : F = fun _ _ => none := by rfl) : FnV G P w K mg base k f fd ps F := by
  subst h
  refine ⟨fun vs H Q E q => ?_, fun A outer s H args us vs Q E _ _ _ _ q => ?_⟩
  · obtain ⟨ws, h, r, h', io, e, _⟩ := q
    cases e
  · obtain ⟨ws, h, r, h', io, e, _⟩ := q
    cases e
/-- one of two readings of what is walked -/
@[simp] def fIalt (f g : FI) : FI := fun fm h => match f fm h with
  | some r => some r
  | none => g fm h
theorem si_alt {G : Gm} {X : Cx} {Wx : WX} {tg l : Expr} {f g : FI} (h1 : SI G X Wx tg l f) (h2 : SI G X Wx tg l g) : SI G X Wx tg l (fIalt f g) := ⟨fun pins s σ H Q I q => by
  obtain ⟨fm, h, r, h', io, e, E, S, p⟩ := q
  unfold fIalt at e
  split at e
  · rename_i e1
    exact h1.run pins s σ H Q I ⟨fm, h, r, h', io, by rw [e1]; exact e, E, S, p⟩
  · exact h2.run pins s σ H Q I ⟨fm, h, r, h', io, e, E, S, p⟩⟩
end Tw

/-! walks within an except suite -/
namespace Tw
open PySem PySem.Spec PyProof.Rows L2 HotX L2H
theorem HotAt.upd {A : Around} {x1 b : Addr} {h : Heap} {g : Obj → Obj} (t : HotAt A x1 h) (nb : x1 ≠ b) : HotAt A x1 (h.update b g) := by
  obtain ⟨hh, o1, v1, h1, d1, c1⟩ := t
  exact ⟨hh, o1, v1, by rw [Heap.get?_update_other _ _ (Ne.symm nb)]; exact h1, d1, c1⟩
theorem HotAt.keep {A : Around} {x1 : Addr} {h h' : Heap} (t : HotAt A x1 h) (k : ∀ o, h.get? x1 = some o → h'.get? x1 = some o) : HotAt A x1 h' := by
  obtain ⟨hh, o1, v1, h1, d1, c1⟩ := t
  exact ⟨hh, o1, v1, k _ h1, d1, c1⟩
theorem ext3 (h : Heap) (it : Addr) (g f : Obj → Obj) (o1 o2 : Obj) : Heap.ExtBut it h ((((h.update it g).push o1).push o2).update ((h.update it g).push o1).objs.size f) := fun b o nb z => by
  have z1 : (h.update it g).get? b = some o := by rw [Heap.get?_update_other _ _ (Ne.symm nb)]; exact z
  have z2 := Heap.get?_push_of_some o1 z1
  rw [Heap.get?_update_other _ _ (Ne.symm (Nat.ne_of_lt (Heap.lt_size z2)))]
  exact Heap.get?_push_of_some o2 z2
section
variable {prog : Program} {w : World} {A : Around} {E : Value → Shared → Prop} {s : Shared} {it l x1 : Addr} {i : Nat} {items : Array Value} {Q : Option Value → Shared → Prop}
theorem list_end_hot (hot : HotAt A x1 s.heap) (n1 : x1 ≠ it) (hit : s.heap.IsListIter it l i) (hl : s.heap.IsList l items) (hx : items[i]? = none) (hQ : ∀ h', Heap.ExtBut it s.heap h' → Q none { s with heap := h' }) :
    wpAny (model prog w) A (pyNext (.ref it)) Q E s := by
  obtain ⟨oi, e1, e2, e3⟩ := id hit
  obtain ⟨ol, k1, k2, k3, k4⟩ := hl
  unfold pyNext
  refine wpAny_bind (wpAny_attempt (wpAny_callSpecial?_slot (name := Str.ofString "__next__") hit.typeIs slot_listiter_next (wpAny_call_entry slot_listiter_next hit.typeIs entry_listiter_next ?_ (args_listiter_next _))))
  change wpAny _ _ (field (Value.ref it) 0 >>= _) _ _ _
  refine wpAny_bind (wpAny_field e1 e3 (x := Value.ref l) rfl ?_)
  change wpAny _ _ (if (Value.ref l == Value.none) = true then _ else _) _ _ _
  have nn : ¬ (Value.ref l == Value.none) = true := Bool.false_ne_true
  rw [if_neg nn]
  change wpAny _ _ (field (Value.ref it) 1 >>= _) _ _ _
  refine wpAny_bind (wpAny_field e1 e3 (x := Value.int i 0) rfl ?_)
  change wpAny _ _ (seqItems? (Value.ref l) >>= _) _ _ _
  refine wpAny_bind (wpAny_seqItems k1 k4 ?_)
  simp only [hx, Int.toNat_natCast]
  refine wpAny_bind (wpAny_rule (wpAny_bind (wpAny_setField e1 e3 (by simp) ?_)))
  change wpAny _ _ (newExc (Value.type "StopIteration") [] >>= _) _ _ _
  refine wpAny_bind ?_
  simp only [newTuple, newExc]
  refine wpAny_bind (wpAny_newObj_type (wpAny_bind (m := firstArgMember _ _) (wpAny_of_eq (a := Value.none) (by first | rfl | (simp only [firstArgMember]; rfl)) (wpAny_newObj_type ?_ (by size_fits)))) (by size_fits))
  refine raiseNew_hot (x1 := x1) (HotAt.keep (HotAt.upd hot n1) fun o z => Heap.get?_push_of_some _ (Heap.get?_push_of_some _ z)) ?_ (Heap.get?_push_size _ rfl) rfl (by first | (simp; done) | (simp; omega)) ?_
  · exact Nat.ne_of_lt (Heap.lt_size (Heap.get?_push_of_some _ (HotAt.upd hot n1).2.choose_spec.choose_spec.1))
  · exact wpAny_bind (wpAny_isInstance (T := "StopIteration") (b := true) ⟨_, Heap.get?_update_self _ (Heap.get?_push_size _ rfl) rfl, rfl⟩ isSubtype_stop (wpAny_pure (hQ _ (ext3 _ _ _ _ _ _))))
theorem tup_end_hot (hot : HotAt A x1 s.heap) (n1 : x1 ≠ it) (hit : s.heap.IsTupleIter it l i) (hl : s.heap.IsTuple l items) (hx : items[i]? = none) (hQ : ∀ h', Heap.ExtBut it s.heap h' → Q none { s with heap := h' }) :
    wpAny (model prog w) A (pyNext (.ref it)) Q E s := by
  obtain ⟨oi, e1, e2, e3⟩ := id hit
  obtain ⟨ol, k1, k2, k3, k4⟩ := hl
  unfold pyNext
  refine wpAny_bind (wpAny_attempt (wpAny_callSpecial?_slot (name := Str.ofString "__next__") hit.typeIs F.slot_tuple_iterator_next (wpAny_call_entry F.slot_tuple_iterator_next hit.typeIs F.entry_tuple_iterator_next ?_ (F.args_tuple_iterator_next_1 _))))
  change wpAny _ _ (field (Value.ref it) 0 >>= _) _ _ _
  refine wpAny_bind (wpAny_field e1 e3 (x := Value.ref l) rfl ?_)
  change wpAny _ _ (if (Value.ref l == Value.none) = true then _ else _) _ _ _
  have nn : ¬ (Value.ref l == Value.none) = true := Bool.false_ne_true
  rw [if_neg nn]
  change wpAny _ _ (field (Value.ref it) 1 >>= _) _ _ _
  refine wpAny_bind (wpAny_field e1 e3 (x := Value.int i 0) rfl ?_)
  change wpAny _ _ (seqItems? (Value.ref l) >>= _) _ _ _
  refine wpAny_bind (wpAny_seqItems k1 k4 ?_)
  simp only [hx, Int.toNat_natCast]
  refine wpAny_bind (wpAny_rule (wpAny_bind (wpAny_setField e1 e3 (by simp) ?_)))
  change wpAny _ _ (newExc (Value.type "StopIteration") [] >>= _) _ _ _
  refine wpAny_bind ?_
  simp only [newTuple, newExc]
  refine wpAny_bind (wpAny_newObj_type (wpAny_bind (m := firstArgMember _ _) (wpAny_of_eq (a := Value.none) (by first | rfl | (simp only [firstArgMember]; rfl)) (wpAny_newObj_type ?_ (by size_fits)))) (by size_fits))
  refine raiseNew_hot (x1 := x1) (HotAt.keep (HotAt.upd hot n1) fun o z => Heap.get?_push_of_some _ (Heap.get?_push_of_some _ z)) ?_ (Heap.get?_push_size _ rfl) rfl (by first | (simp; done) | (simp; omega)) ?_
  · exact Nat.ne_of_lt (Heap.lt_size (Heap.get?_push_of_some _ (HotAt.upd hot n1).2.choose_spec.choose_spec.1))
  · exact wpAny_bind (wpAny_isInstance (T := "StopIteration") (b := true) ⟨_, Heap.get?_update_self _ (Heap.get?_push_size _ rfl) rfl, rfl⟩ isSubtype_stop (wpAny_pure (hQ _ (ext3 _ _ _ _ _ _))))
end
theorem takesN {X : Cx} : L2N.Takes X (fun _ _ _ _ => False) := fun _ _ x => by
  obtain ⟨_, _, _, _, _, _, _, _, _, _, _, _, _, _, _, _, z⟩ := x
  exact z.elim
theorem hotS {X : Cx} {a : Addr} {cls : Value} {d : Option Addr} {oe : Obj} {pn : List (Addr × Obj)} (hz : L2N.Zn cls d oe) (hd : ∃ vs, oe.data = .fields vs) : HotC (X.suite a ((a, oe) :: pn)) := by
  obtain ⟨vs, e⟩ := hd
  exact ⟨(a, oe), ⟨rfl, vs, e, hz.2.2 vs e⟩, List.mem_cons_self⟩
/-! ### any(list) -/
theorem walks_hot {prog : Program} {w : World} {A : Around} (I ax x1 : Addr) (hne : ax ≠ I) (n1 : x1 ≠ I) (items : Array Value) :
    Walks prog w A I [I, ax, x1] [I] items.size (fun i v => items[i]? = some v) (fun i h => (h.IsListIter I ax i ∧ h.IsList ax items) ∧ HotAt A x1 h) where
  sub := fun b hb => by simp at hb; simp [hb]
  frame := fun _ _ _ st hk => ⟨⟨st.1.1.at fun o e => hk I (by simp) o e, st.1.2.at fun o e => hk ax (by simp) o e⟩, HotAt.keep st.2 fun o e => hk x1 (by simp) o e⟩
  item := fun i s Q E hi st hQ => wpAny_pyNext_list_item st.1.1 st.1.2 (x := items[i]) (by simp [hi]) fun h' a b =>
    hQ _ h' s.toks (by simp [hi]) ⟨⟨a, st.1.2.extBut b.extBut hne⟩, HotAt.keep st.2 fun o e => b.extBut x1 o n1 e⟩ fun c o hb e => b.extBut c o (fun h => hb (by simp [h])) e
  done := fun s Q E st hQ => list_end_hot st.2 n1 st.1.1 st.1.2 (by simp) fun h' he => hQ h' s.toks fun b o hb e => he b o (fun h => hb (by simp [h])) e
  self := fun _ _ _ _ st hQ => wpAny_pyIter_listiter st.1.1 hQ
theorem cr_anyH {X : Cx} (hc : HotC X) : CallR X (.builtin "any") (rAny X.K) := by
  intro pins s σ H vs us Q I r h
  obtain ⟨a, bs, rfl, hs, q⟩ := h
  obtain ⟨its, rv, hl, _⟩ := I.list hs
  obtain ⟨x1, hot⟩ := hc.at I
  rw [Vals.ref1 r]
  have hb := rv.bls
  have lx : x1 < s.heap.objs.size := Heap.lt_size hot.2.choose_spec.choose_spec.1
  refine call_any_walk (iter_any hl.isList fun s2 e2 st hne => ?_)
  subst e2
  refine ⟨_, _, _, _, _, _, _, rfl, walks_hot (A := X.A.in1) _ a x1 hne (Nat.ne_of_lt lx) its.toArray, ⟨st, HotAt.keep (A := X.A.in1) hot fun o z => Heap.get?_push_of_some _ z⟩, truth_bools hb, fun h' tk hk => ⟨.bl _, H, I.kept fun b o eo => hk b o (fun hmem => ?_) (Heap.get?_push_of_some _ eo), ?_, q⟩⟩
  · rcases List.mem_cons.mp hmem with z | hmem
    · exact absurd (z ▸ Heap.lt_size eo) (Nat.lt_irrefl _)
    · cases hmem
  · show Value.bool _ = Value.bool _
    rw [← L2.any_range, hb, List.size_toArray, List.length_map]
end Tw

/-! for, and comprehensions, within an except suite -/
namespace Tw
open PySem PySem.Spec PyProof.Rows L2 HotX L2H
/-- an iterator that is walked while x1 is handled -/
structure TurnZ (P : Program) (w : World) (K : PySem.W.Frag) (tg : Expr) (J : It) (fp : List Addr) (it : Addr) (tn : Nat → Heap → Prop) : Prop where
  mem : it ∈ fp
  obj : ∀ i h, tn i h → ∀ b ∈ fp, ∃ o, h.get? b = some o ∧ ∀ v, o.data ≠ .cell v
  keep : ∀ i h h', tn i h → (∀ b ∈ fp, ∀ o, h.get? b = some o → h'.get? b = some o) → tn i h'
  item : ∀ (X : Cx) (i : Nat) (ps : List (Addr × Obj)) (s : Shared) (σ : L2.St) (H : Hp) (E : Value → Shared → Prop), X.prog = P → X.w = w → X.K = K → Inv X ps σ H s → (∀ b ∈ fp, FpOk X ps H b) → tn i s.heap → J.go i H →
    wpAny (model P w) X.A (pyNext (.ref it)) (fun r s1 => ∃ u, r = some u ∧ wpAny (model P w) X.A (letOwnedTupleGo tg (.ref it) u) (fun _ s2 => ∃ x H', Inv X ps σ H' s2 ∧ RelV x u ∧ J.yld i H x H' ∧ tn (i + 1) s2.heap ∧ ∀ b ∈ fp, H' b = none) E s1) E s
  done : ∀ (X : Cx) (x1 : Addr) (i : Nat) (ps : List (Addr × Obj)) (s : Shared) (σ : L2.St) (H : Hp) (E : Value → Shared → Prop), X.prog = P → X.w = w → X.K = K → HotAt X.A x1 s.heap → x1 ∉ fp → Inv X ps σ H s → (∀ b ∈ fp, FpOk X ps H b) → tn i s.heap → J.stop i H →
    wpAny (model P w) X.A (pyNext (.ref it)) (fun r s1 => r = none ∧ Inv X ps σ H s1) E s
  self : ∀ (A : Around) (i : Nat) (s : Shared) (Q : Value → Shared → Prop) (E : Value → Shared → Prop), tn i s.heap → Q (.ref it) s → wpAny (model P w) A (pyIter (.ref it)) Q E s
section
variable {P : Program} {w : World} {K : PySem.W.Frag} {tg : Expr}
theorem one_mem {b it : Addr} (h : b ∈ [it]) : b = it := by simpa using h
theorem turnZ_list (a it : Addr) : TurnZ P w K tg (Itl K a) [it] it (fun i h => h.IsListIter it a i) := by
  refine ⟨List.mem_cons_self, fun i h st b hb => ?_, fun i h h' st k => st.at fun o e => k it List.mem_cons_self o e, ?_, ?_, fun _ _ _ _ _ st q => wpAny_pyIter_listiter st q⟩
  · cases one_mem hb
    obtain ⟨o, e, _, d⟩ := st
    exact ⟨o, e, fun v z => by rw [d] at z; cases z⟩
  · rintro X i ps s σ H E rfl rfl rfl I hf st ⟨xs, x, hq, hx⟩
    obtain ⟨its, rv, p, _⟩ := I.list hq
    obtain ⟨u, hu, ru⟩ := rv.get hx
    have F := hf it List.mem_cons_self
    refine wpAny_pyNext_list_item st p.isList (x := u) (by simpa using hu) fun h' st' sb => ⟨u, rfl, ?_⟩
    obtain ⟨o, e, c, d⟩ := id st'
    exact go_of (s := { s with heap := h' }) e c d (by decide) ⟨x, H, I.turned (t' := s.toks) (fun b o hb z => (sb.2 b hb).trans z) F.1 F.2.1 F.2.2.2.1 F.2.2.2.2.1 F.2.2.2.2.2, ru, ⟨rfl, fun ys hy => by rw [I.list_inj hy hq]; exact hx⟩, st', fun b hb => (hf b hb).1⟩
  · rintro X x1 i ps s σ H E rfl rfl rfl hot nx I hf st ⟨xs, hq, hx⟩
    obtain ⟨its, rv, p, _⟩ := I.list hq
    have F := hf it List.mem_cons_self
    have hl := rv.length
    exact list_end_hot hot (fun z => nx (by rw [z]; exact List.mem_cons_self)) st p.isList (by simp; omega) fun h' eb => ⟨rfl, I.turned (t' := s.toks) (fun b o hb z => eb b o hb z) F.1 F.2.1 F.2.2.2.1 F.2.2.2.2.1 F.2.2.2.2.2⟩
theorem turnZ_tup (a it : Addr) : TurnZ P w K tg (Itt K a) [it] it (fun i h => h.IsTupleIter it a i) := by
  refine ⟨List.mem_cons_self, fun i h st b hb => ?_, fun i h h' st k => st.at fun o e => k it List.mem_cons_self o e, ?_, ?_, fun _ _ _ _ _ st q => wpAny_pyIter_tupleiter st q⟩
  · cases one_mem hb
    obtain ⟨o, e, _, d⟩ := st
    exact ⟨o, e, fun v z => by rw [d] at z; cases z⟩
  · rintro X i ps s σ H E rfl rfl rfl I hf st ⟨xs, x, hq, hx⟩
    obtain ⟨its, rv, p, _⟩ := I.tuple hq
    obtain ⟨u, hu, ru⟩ := rv.get hx
    have F := hf it List.mem_cons_self
    have p' : s.heap.IsTuple a its.toArray := p
    refine wpAny_pyNext_tuple_item st p' (x := u) (by simpa using hu) fun h' st' sb => ⟨u, rfl, ?_⟩
    obtain ⟨o, e, c, d⟩ := id st'
    exact go_of (s := { s with heap := h' }) e c d (by decide) ⟨x, H, I.turned (t' := s.toks) (fun b o hb z => (sb.2 b hb).trans z) F.1 F.2.1 F.2.2.2.1 F.2.2.2.2.1 F.2.2.2.2.2, ru, ⟨rfl, fun ys hy => by rw [I.tuple_inj hy hq]; exact hx⟩, st', fun b hb => (hf b hb).1⟩
  · rintro X x1 i ps s σ H E rfl rfl rfl hot nx I hf st ⟨xs, hq, hx⟩
    obtain ⟨its, rv, p, _⟩ := I.tuple hq
    have F := hf it List.mem_cons_self
    have hl := rv.length
    have p' : s.heap.IsTuple a its.toArray := p
    exact tup_end_hot hot (fun z => nx (by rw [z]; exact List.mem_cons_self)) st p' (by simp; omega) fun h' eb => ⟨rfl, I.turned (t' := s.toks) (fun b o hb z => eb b o hb z) F.1 F.2.1 F.2.2.2.1 F.2.2.2.2.1 F.2.2.2.2.2⟩
theorem turnZ_rng (it : Addr) (lo : Int) (n : Nat) : TurnZ P w K tg (Itr lo n) [it] it (fun i h => IsRangeIter h it (lo + (i : Nat) * 1) ((n : Int) - (i : Nat)) 1) := by
  refine ⟨List.mem_cons_self, fun i h st b hb => ?_, fun i h h' st k => k it List.mem_cons_self _ st, ?_, ?_, fun _ _ _ _ _ st q => wpAny_pyIter_rangeiter st q⟩
  · cases one_mem hb
    exact ⟨_, st, fun v z => Data.noConfusion (show Data.fields _ = Data.cell v from z)⟩
  · rintro X i ps s σ H E rfl rfl rfl I hf st hg
    have hlt : i < n := hg
    have F := hf it List.mem_cons_self
    refine wpAny_pyNext_range_item st (by omega) fun h' st' sb => ?_
    have st2 : IsRangeIter h' it (lo + ((i + 1 : Nat) : Int) * 1) ((n : Int) - ((i + 1 : Nat) : Int)) 1 := by
      have a1 : lo + ((i : Nat) : Int) * 1 + 1 = lo + ((i + 1 : Nat) : Int) * 1 := by omega
      have a2 : (n : Int) - ((i : Nat) : Int) - 1 = (n : Int) - ((i + 1 : Nat) : Int) := by omega
      rw [a1, a2] at st'
      exact st'
    exact ⟨_, rfl, go_of (s := { s with heap := h', toks := s.toks + 1 }) (n := "range_iterator") st2 rfl rfl (by decide) ⟨.int (lo + i), H, I.turned (fun b o hb z => (sb.2 b hb).trans z) F.1 F.2.1 F.2.2.2.1 F.2.2.2.2.1 F.2.2.2.2.2, ⟨s.toks, by rw [Int.mul_one]⟩, ⟨rfl, rfl⟩, st2, fun b hb => (hf b hb).1⟩⟩
  · rintro X x1 i ps s σ H E rfl rfl rfl hot nx I hf st hg
    have hge : n ≤ i := hg
    have F := hf it List.mem_cons_self
    exact pyNext_range_end_hot hot st (by omega) fun h' eb => ⟨rfl, I.turned (t' := s.toks) (fun b o _ z => eb b o z) F.1 F.2.1 F.2.2.2.1 F.2.2.2.2.1 F.2.2.2.2.2⟩
end
/-- an iterator of that kind has come -/
def PIEZ (X : Cx) (ps : List (Addr × Obj)) (σ : L2.St) (tg : Expr) (R : It → Hp → Prop) (itv : Value) (s2 : Shared) : Prop :=
  ∃ (it : Addr) (fp : List Addr) (tn : Nat → Heap → Prop) (J : It) (H' : Hp), itv = .ref it ∧ Inv X ps σ H' s2 ∧ TurnZ X.prog X.w X.K tg J fp it tn ∧ tn 0 s2.heap ∧ (∀ b ∈ fp, FpOk X ps H' b) ∧ R J H'
structure PIZ (X : Cx) (tg iter : Expr) (wi : TI) : Prop where
  run : ∀ (ps : List (Addr × Obj)) (s : Shared) (σ : L2.St) (H : Hp) (R : It → Hp → Prop), Inv X ps σ H s → wi σ H R →
    wpAny (model X.prog X.w) X.A (eval iter X.env) (fun v s1 => wpAny (model X.prog X.w) X.A (pyIter v) (PIEZ X ps σ tg R) X.xe s1) X.xe s
theorem PIZw {X : Cx} {tg e : Expr} {t t' : TI} (p : PIZ X tg e t) (k : ∀ s H R, t' s H R → t s H R) : PIZ X tg e t' := ⟨fun ps s σ H R I h => p.run ps s σ H R I (k _ _ _ h)⟩
section
variable {X : Cx} {tg : Expr}
theorem new_fp {ps : List (Addr × Obj)} {σ : L2.St} {H : Hp} {s : Shared} (I : Inv X ps σ H s) : ∀ b ∈ [s.heap.objs.size], FpOk X ps H b := fun b hb => by
  cases one_mem hb
  exact I.fpOk (Nat.le_refl _) (I.hok.fresh (Nat.le_refl _))
theorem piz_list {l : Expr} {tl : TE} (hl : PE X l tl) : PIZ X tg l (iList X.K tl) := ⟨fun ps s σ H R I h => thn (hl.run ps s σ H _ I h) fun v s1 ⟨x, H1, I1, r1, a, e, ⟨xs, hq⟩, q⟩ => by
  subst e
  cases r1
  obtain ⟨its, rv, p, _⟩ := I1.list hq
  exact wpAny_pyIter_list p.isList ⟨_, _, _, _, H1, rfl, I1.kept (t' := s1.toks) fun b o z => Heap.get?_push_of_some _ z, turnZ_list a _, ⟨_, Heap.get?_push_size _ rfl, rfl, rfl⟩, new_fp I1, q⟩⟩
theorem piz_tup {l : Expr} {tl : TE} (hl : PE X l tl) : PIZ X tg l (iTup X.K tl) := ⟨fun ps s σ H R I h => thn (hl.run ps s σ H _ I h) fun v s1 ⟨x, H1, I1, r1, a, e, ⟨xs, hq⟩, q⟩ => by
  subst e
  cases r1
  obtain ⟨its, rv, p, _⟩ := I1.tuple hq
  have p' : s1.heap.IsTuple a its.toArray := p
  exact wpAny_pyIter_tuple p' ⟨_, _, _, _, H1, rfl, I1.kept (t' := s1.toks) fun b o z => Heap.get?_push_of_some _ z, turnZ_tup a _, ⟨_, Heap.get?_push_size _ rfl, rfl, rfl⟩, new_fp I1, q⟩⟩
end
end Tw

namespace Tw
open PySem PySem.Spec PyProof.Rows L2 HotX L2H
section
variable {X : Cx} {tg : Expr}
/-- the handled exception, as it stands now -/
theorem hotNow {ps : List (Addr × Obj)} {σ : L2.St} {H : Hp} {s : Shared} (c : HotC X) (I : Inv X ps σ H s) {fp : List Addr} (hf : ∀ b ∈ fp, FpOk X ps H b) : ∃ x1, HotAt X.A x1 s.heap ∧ x1 ∉ fp := by
  obtain ⟨p, ⟨hh, v1, e1, c1⟩, hp⟩ := c
  exact ⟨p.1, ⟨hh, p.2, v1, (I.pin p (List.mem_append_left _ hp)).1, e1, c1⟩, fun z => (hf p.1 z).2.2.2.2.2 p (List.mem_append_left _ hp) rfl⟩
theorem psz_for {iter : Expr} {body : List Stmt} {wi : TI} {g : TG} {tb : TS} {pos : Pos} (hp : PassesOwn (model X.prog X.w) X.A X.env X.xe) (hc : HotC X) (hi : PIZ X tg iter wi) (hg : PG X tg g) (hb : PSs X body tb)
    (hs : ∀ x, foldedSetIterable iter X.env x = pure x := by intro _; rfl) : PS X (.For tg iter body [] pos) (tFor wi g tb) := ⟨fun ps s σ H D I h => wpAny_For (thn (hi.run ps s σ H _ I h) fun v s1 h1 => thn h1 fun itv s2 ⟨it, fp, tn, J, H2, e, I2, T, st2, f2, W, ⟨m0, w0⟩, turn⟩ => by
  subst e
  have ok : ∀ {H' : Hp}, (∀ b ∈ fp, H' b = none) → ∀ b ∈ fp, FpOk X ps H' b := fun n b z => ⟨n b z, (f2 b z).2⟩
  refine codeAny_forLoop_any (fun n t => ∃ i σ' H', Inv X ps σ' H' t ∧ tn i t.heap ∧ (∀ b ∈ fp, H' b = none) ∧ W i n σ' H') (fun n s3 ⟨i, σ3, H3, I3, st3, n3, w3⟩ => ?_) m0 ⟨0, σ, H2, I2, st2, fun b z => (f2 b z).1, w0⟩
  rcases turn i n σ3 H3 w3 with ⟨stop, qn⟩ | ⟨go, N, hN, step⟩
  · obtain ⟨x1, hot, nx⟩ := hotNow hc I3 (ok n3)
    refine wpAny_passesOwn hp (thn (T.done X x1 i ps s3 σ3 H3 X.xe rfl rfl rfl hot nx I3 (ok n3) st3 stop) fun r s4 ⟨hr, I4⟩ => ?_)
    subst hr
    exact wpAny_execs_nil ⟨σ3, H3, I4, qn⟩
  · refine wpAny_passesOwn hp (thn (T.item X i ps s3 σ3 H3 X.xe rfl rfl rfl I3 (ok n3) st3 go) fun r s4 ⟨u, hr, h4⟩ => ?_)
    subst hr
    refine wpAny_passesOwn hp (thn h4 fun _ s5 ⟨x, H5, I5, r5, y5, st5, n5⟩ => ?_)
    refine wpAny_passesOwn hp (thn (hg.run _ s5 σ3 H5 x u _ (I5.pinned (ok n5) (T.obj _ _ st5)) r5 (step x H5 y5)) fun _ s6 ⟨σ6, H6, I6, q6⟩ => ?_)
    refine wpAny_passesOwn hp (thn (hb.run _ s6 σ6 H6 _ I6 q6) fun f s7 q7 => ?_)
    have pin7 : ∀ {σ7 : L2.St} {H7 : Hp}, Inv X (ps ++ pinsAt fp s5.heap) σ7 H7 s7 → ∀ b ∈ fp, ∀ o, s5.heap.get? b = some o → s7.heap.get? b = some o ∧ H7 b = none := fun I7 b z o e =>
      let y := I7.pin (b, o) (List.mem_append_right _ (List.mem_append_right _ (mem_pinsAt z e)))
      ⟨y.1, y.2.1⟩
    have back : ∀ {σ7 : L2.St} {H7 : Hp}, Inv X (ps ++ pinsAt fp s5.heap) σ7 H7 s7 → N σ7 H7 → ∃ m, m < n ∧ ∃ i σ' H', Inv X ps σ' H' s7 ∧ tn i s7.heap ∧ (∀ b ∈ fp, H' b = none) ∧ W i m σ' H' := fun {σ7 H7} I7 n7 => by
      obtain ⟨m', lt, w7⟩ := hN σ7 H7 n7
      exact ⟨m', lt, i + 1, σ7, H7, I7.unpinned, T.keep _ _ _ st5 fun b z o e => (pin7 I7 b z o e).1, fun b z => by
        obtain ⟨o, e, _⟩ := T.obj _ _ st5 b z
        exact (pin7 I7 b z o e).2, w7⟩
    cases f with
    | next => exact let ⟨_, _, a, b⟩ := q7; back a b
    | cont => exact let ⟨_, _, a, b⟩ := q7; back a b
    | brk => exact let ⟨a, b, c, d⟩ := q7; ⟨a, b, c.unpinned, d⟩
    | ret v => exact let ⟨y, a, b, c, r, d⟩ := q7; ⟨y, a, b, c.unpinned, r, d⟩) hs⟩
theorem lcz_core {ps : List (Addr × Obj)} {s : Shared} {σ : L2.St} {H : Hp} {Q : VK} {elt iter : Expr} {ifs : List Expr} {scope : Scope} {own : List (Str × Nat)} {pos pos' : Pos} {wi : TI} {g : TG} {tt : TT} {te : TE} {use : Option (Value → Sem Unit)} {Qf : Value → Shared → Prop}
    (hc : HotC X) (hN : X.N.Nodup) (I : Inv X ps σ H s) (hi : PIZ X tg iter wi) (ok : BlkOk X.N X.env.scope scope own)
    (hg : ∀ (s : Shared) (H : Hp) (C : Addr) (cl : List (Str × Addr)) (fp : List Addr), PG (X.blk s H scope (compEnvC scope cl C X.env) fp) tg g) (ht : ∀ (s : Shared) (H : Hp) (C : Addr) (cl : List (Str × Addr)) (fp : List Addr), PTs (X.blk s H scope (compEnvC scope cl C X.env) fp) ifs tt)
    (he : ∀ (s : Shared) (H : Hp) (C : Addr) (cl : List (Str × Addr)) (fp : List Addr), PE (X.blk s H scope (compEnvC scope cl C X.env) fp) elt te) (hs : ∀ x, foldedSetIterable iter X.env x = pure x) (h : tLc wi g tt te (own.map (·.2)) σ H Q)
    (hRR : ∀ D C s' m H', Inv X ps σ H' s' → Q (.ref D) H' → s'.heap.Ns C m → FpOk X ps H' C → compPost (model X.prog X.w) X.A X.xe use Qf (.ref D) C (.ok .next) s') :
    wpAny (model X.prog X.w) X.A (comprehension (.ListComp elt [⟨tg, iter, ifs, 0⟩] scope pos) scope X.env pos' (newList []) false (eval iter X.env) use) Qf X.xe s := by
  have hfr : ∀ y ∈ scope.names, y.2 = .free → ∃ c, X.env.cells.lookup y.1 = some c := fun y hy e => (ok.free y hy e).elim (fun k => I.ok.has _ (.inl k)) fun k => I.ok.has _ (.inr k)
  refine wpAny_comprehension_free (use := use) rfl hs (closure_ok hfr) ok.kind (fun y hy e => by rw [ok.uniq y hy, e]) (thn (hi.run ps s σ H _ I h) fun xv s1 hx => thn hx fun itv s2 ⟨it, fp, tn, J, H2, e, I2, T, st2, f2, q⟩ => ?_)
  subst e
  refine wpAny_newObj_type (newEnv_comp ?_) (show 0 ≤ sizeLine by decide)
  generalize hD : s2.heap.objs.size = D
  have nD : H2 D = none := I2.hok.fresh (Nat.le_of_eq hD)
  obtain ⟨W, ⟨m0, w0⟩, turn⟩ := q D nD
  generalize hs3 : ({ s2 with heap := s2.heap.push { cls := .type "list", data := .seq ([] : List Value).toArray } } : Shared) = s3
  have h3 : s3.heap = s2.heap.push { cls := .type "list", data := .seq ([] : List Value).toArray } := by rw [← hs3]
  have I3 : Inv X ps σ (upd H2 D (.lst [])) s3 := by
    rw [← hs3]
    exact I2.laid (t' := s2.toks) (fun b o e => Heap.get?_push_of_some _ e) (Nat.le_of_eq hD) ⟨Nat.zero_le _, [], 0, .nil, by rw [← hD]; exact Heap.get?_push_size _ rfl⟩
  have f3 : ∀ b ∈ fp, FpOk X ps (upd H2 D (.lst [])) b ∧ b < s3.heap.objs.size := fun b z => by
    obtain ⟨o, e, _⟩ := T.obj _ _ st2 b z
    have lt := Heap.lt_size e
    exact ⟨⟨by rw [upd_ne (by rw [← hD]; exact Nat.ne_of_lt lt)]; exact (f2 b z).1, (f2 b z).2⟩, by rw [h3, Heap.size_push]; exact Nat.lt_succ_of_lt lt⟩
  have st3 : tn 0 s3.heap := T.keep _ _ _ st2 fun b _ o e => by rw [h3]; exact Heap.get?_push_of_some _ e
  obtain ⟨p, ⟨hh, v1, pe1, pc1⟩, hp⟩ := hc
  have P3 := I3.pin p (List.mem_append_left _ hp)
  have np : p.1 ∉ fp := fun z => (f3 p.1 z).1.2.2.2.2.2 p (List.mem_append_left _ hp) rfl
  have nst : p.1 ∉ frs X.stack := fun z => (List.mem_cons.mp (I3.stkSub p.1 z)).elim P3.2.2.1 P3.2.2.2.1
  have I4 := block_start I3 ok hN f3
  have pg := hg s3 (upd H2 D (.lst [])) s3.heap.objs.size (cellsFrom (s3.heap.objs.size + 1) scope.names (cloFrom X.env.cells scope.names [])) fp
  have pt := ht s3 (upd H2 D (.lst [])) s3.heap.objs.size (cellsFrom (s3.heap.objs.size + 1) scope.names (cloFrom X.env.cells scope.names [])) fp
  have pe := he s3 (upd H2 D (.lst [])) s3.heap.objs.size (cellsFrom (s3.heap.objs.size + 1) scope.names (cloFrom X.env.cells scope.names [])) fp
  change codeAny _ _ (.compStart (.ListComp elt [⟨tg, iter, ifs, 0⟩] scope pos) 0 (.ref it) (.ref D) (compEnvC scope (cellsFrom (s3.heap.objs.size + 1) scope.names (cloFrom X.env.cells scope.names [])) s3.heap.objs.size X.env)) (compPost (model X.prog X.w) X.A X.xe use Qf (.ref D) s3.heap.objs.size) { s3 with heap := pushCells (s3.heap.push { cls := .type "dict", data := .dict #[] }) scope.names }
  generalize hce : compEnvC scope (cellsFrom (s3.heap.objs.size + 1) scope.names (cloFrom X.env.cells scope.names [])) s3.heap.objs.size X.env = ce at I4 pg pt pe ⊢
  have cL : ce.locals = s3.heap.objs.size := by subst hce; rfl
  generalize hH3 : upd H2 D (.lst []) = H3 at I3 I4 pg pt pe w0 f3 P3
  generalize hs4 : ({ s3 with heap := pushCells (s3.heap.push { cls := .type "dict", data := .dict #[] }) scope.names } : Shared) = s4 at I4 ⊢
  have st4 : tn 0 s4.heap := T.keep _ _ _ st3 fun b _ o e => by rw [← hs4]; exact pushCells_keeps _ _ _ _ (Heap.get?_push_of_some _ e)
  have fok : ∀ {σ' : L2.St} {H' : Hp} {t : Shared}, Inv (X.blk s3 H3 scope ce fp) [] σ' H' t → (∀ b ∈ fp, H' b = none) → ∀ b ∈ fp, FpOk (X.blk s3 H3 scope ce fp) [] H' b := fun J n b z =>
    ⟨n b z, (J.ok.exf b z).1, J.ok.exfs b z, .inl z, (J.ok.exf b z).2, fun r hr => by cases (show r ∈ ([] : List (Addr × Obj)) ++ [] from hr)⟩
  have hot5 : ∀ {σ' : L2.St} {H' : Hp} {t : Shared}, Inv (X.blk s3 H3 scope ce fp) [] σ' H' t → HotAt X.A p.1 t.heap := fun J => ⟨hh, p.2, v1, J.base.keep p.1 p.2 P3.1 P3.2.1 nst np, pe1, pc1⟩
  have loop : codeAny (model X.prog X.w) X.A (.compLoop (.ListComp elt [⟨tg, iter, ifs, 0⟩] scope pos) 0 (.ref it) (.ref D) ce) (compPost (model X.prog X.w) X.A X.xe use Qf (.ref D) s3.heap.objs.size) s4 := by
    refine compLoop_any (fun n t => ∃ i H', Inv (X.blk s3 H3 scope ce fp) [] (wipe σ (own.map (·.2))) H' t ∧ tn i t.heap ∧ (∀ b ∈ fp, H' b = none) ∧ W i n H') (fun n s5 ⟨i, H5, I5, st5, n5, w5⟩ => ?_) m0 ⟨0, H3, I4, st4, fun b z => (f3 b z).1.1, w0⟩
    rcases turn i n H5 w5 with ⟨stop, qq⟩ | ⟨go, Nx, hNx, step⟩
    · refine thnF (T.done (X.blk s3 H3 scope ce fp) p.1 i [] s5 _ H5 (fun _ _ => False) rfl rfl rfl (hot5 I5) np I5 (fok I5 n5) st5 stop) fun r s6 ⟨hr, I6⟩ => ?_
      subst hr
      have I7 : Inv X ps σ H5 s6 := I3.call' (ch := fp) I6.os I6.base I6.hok I6.bare fun b z => ⟨(f3 b z).1.2.2.2.1, (f3 b z).1.2.1, (f3 b z).1.2.2.2.2.1, (f3 b z).1.2.2.2.2.2⟩
      have z6 : H5 ce.locals = none := I6.free
      obtain ⟨m, hn, _⟩ := I6.loc
      have hn' : s6.heap.Ns ce.locals m := hn
      rw [cL] at hn' z6
      exact hRR D _ s6 m H5 I7 qq hn' (I3.fpOk (Nat.le_refl _) z6)
    · refine thnF (T.item (X.blk s3 H3 scope ce fp) i [] s5 _ H5 (fun _ _ => False) rfl rfl rfl I5 (fok I5 n5) st5 go) fun r s6 ⟨u, hr, h6⟩ => ?_
      subst hr
      refine thnF h6 fun _ s7 ⟨x, H7, I7, r7, y7, st7, n7⟩ => ?_
      refine thnF (pg.run _ s7 _ H7 x u _ (I7.pinned (fok I7 n7) (T.obj _ _ st7)) r7 (step x H7 y7)) fun _ s8 ⟨σ8, H8, I8, hw8, q8⟩ => ?_
      refine thnF (pt.run _ s8 σ8 H8 _ I8 q8) fun b s9 ⟨H9, I9, q9⟩ => ?_
      have fin : ∀ {t : Shared} {H' : Hp}, Inv (X.blk s3 H3 scope ce fp) ([] ++ pinsAt fp s7.heap) σ8 H' t → Nx H' → ∃ m, m < n ∧ ∃ i H', Inv (X.blk s3 H3 scope ce fp) [] (wipe σ (own.map (·.2))) H' t ∧ tn i t.heap ∧ (∀ b ∈ fp, H' b = none) ∧ W i m H' := fun {t H'} J nx => by
        obtain ⟨m', lt, w'⟩ := hNx H' nx
        have kp : ∀ b ∈ fp, ∀ o, s7.heap.get? b = some o → t.heap.get? b = some o ∧ H' b = none := fun b z o e =>
          let y := J.pin (b, o) (List.mem_append_right _ (List.mem_append_right _ (mem_pinsAt z e)))
          ⟨y.1, y.2.1⟩
        refine ⟨m', lt, i + 1, H', (J.unpinned (pins := [])).weak (by rw [← hw8, wipe_length]) fun j v e => ?_, T.keep _ _ _ st7 fun b z o e => (kp b z o e).1, fun b z => ?_, w'⟩
        · rw [← hw8] at e
          exact (wipe_some e).1
        · obtain ⟨o, e, _⟩ := T.obj _ _ st7 b z
          exact (kp b z o e).2
      cases b with
      | false => exact fin I9 q9
      | true => exact thnF (pe.run _ s9 σ8 H9 _ I9 q9) fun z s10 ⟨yv, H10, I10, r10, acc, hD10, hz10, nx⟩ => app_ok (X := X.blk s3 H3 scope ce fp) I10 hD10 hz10 r10 fun s11 I11 => fin I11 nx
  exact codeAny_compStart_list loop (T.self X.A 0 _ _ _ st4 loop)
theorem pez_lc {elt iter : Expr} {ifs : List Expr} {scope : Scope} {own : List (Str × Nat)} {pos : Pos} {wi : TI} {g : TG} {tt : TT} {te : TE} (hc : HotC X) (hN : X.N.Nodup) (hi : PIZ X tg iter wi) (ok : BlkOk X.N X.env.scope scope own)
    (hg : ∀ (s : Shared) (H : Hp) (C : Addr) (cl : List (Str × Addr)) (fp : List Addr), PG (X.blk s H scope (compEnvC scope cl C X.env) fp) tg g) (ht : ∀ (s : Shared) (H : Hp) (C : Addr) (cl : List (Str × Addr)) (fp : List Addr), PTs (X.blk s H scope (compEnvC scope cl C X.env) fp) ifs tt)
    (he : ∀ (s : Shared) (H : Hp) (C : Addr) (cl : List (Str × Addr)) (fp : List Addr), PE (X.blk s H scope (compEnvC scope cl C X.env) fp) elt te) (hs : ∀ x, foldedSetIterable iter X.env x = pure x := by intro _; rfl) : PE X (.ListComp elt [⟨tg, iter, ifs, 0⟩] scope pos) (tLc wi g tt te (own.map (·.2))) := ⟨fun ps s σ H Q I h => by
  rw [eval_ListComp]
  exact lcz_core hc hN I hi ok hg ht he hs h fun D C s' m H' J q hn F => ⟨m, hn, fun h2 sb => ⟨.ref D, H', J.turned (t' := s'.toks) (fun b o hb e => (sb.2 b hb).trans e) F.1 F.2.1 F.2.2.2.1 F.2.2.2.2.1 F.2.2.2.2.2, rfl, q⟩⟩⟩
theorem psz_setLc {i : Nat} {y : Str} {py : Pos} {elt iter : Expr} {ifs : List Expr} {scope : Scope} {own : List (Str × Nat)} {pos spos : Pos} {wi : TI} {g : TG} {tt : TT} {te : TE} (hc : HotC X) (hN : X.N.Nodup) (hy : X.N[i]? = some y) (hyl : X.env.scope.names.lookup y = some .local)
    (hsw : swapsWith (.ListComp elt [⟨tg, iter, ifs, 0⟩] scope pos) (some (.Name y py)) spos.line X.env = pure true) (hi : PIZ X tg iter wi) (ok : BlkOk X.N X.env.scope scope own)
    (hg : ∀ (s : Shared) (H : Hp) (C : Addr) (cl : List (Str × Addr)) (fp : List Addr), PG (X.blk s H scope (compEnvC scope cl C X.env) fp) tg g) (ht : ∀ (s : Shared) (H : Hp) (C : Addr) (cl : List (Str × Addr)) (fp : List Addr), PTs (X.blk s H scope (compEnvC scope cl C X.env) fp) ifs tt)
    (he : ∀ (s : Shared) (H : Hp) (C : Addr) (cl : List (Str × Addr)) (fp : List Addr), PE (X.blk s H scope (compEnvC scope cl C X.env) fp) elt te) (hs : ∀ x, foldedSetIterable iter X.env x = pure x := by intro _; rfl) : PS X (.Assign [.Name y py] (.ListComp elt [⟨tg, iter, ifs, 0⟩] scope pos) spos) (tAsg (tLc wi g tt te (own.map (·.2))) (gName i)) := ⟨fun ps s σ H D I h => by
  rw [exec_Assign_Name_used _ _ _ _ hsw]
  refine wpAny_bind (wpAny_standAt (wpAny_bind ?_))
  change wpAny _ X.A (do let _ ← comprehension (.ListComp elt [⟨tg, iter, ifs, 0⟩] scope pos) scope X.env (firstIterPos [⟨tg, iter, ifs, 0⟩] pos) (newList []) false (eval iter X.env) (some (assign (.Name y py) X.env))) _ _ s
  have h' : tLc wi g tt te (own.map (·.2)) σ H (fun x H1 => gName i x σ H1 D.nx) := h
  refine wpAny_bind (thn (lcz_core (Qf := fun _ t => SP X ps D .next t) hc hN I hi ok hg ht he hs h' fun L C s' m H' J q hn F => ?_) fun _ t hq => wpAny_pure (wpAny_pure hq))
  change wpAny _ _ (assign (.Name y py) X.env (.ref L)) _ _ _
  refine wpAny_assign_Name (store_ok2 (v := V.ref L) J hN hy (.inl hyl) rfl (fun s2 I2 ⟨a, sb, ha⟩ => ?_) (.inr hyl))
  have ne : C ≠ a := ha.elim (fun z => by rw [z]; exact F.2.1) fun z e => F.2.2.2.2.1 y a z e.symm
  exact ⟨m, hn.sameBut sb ne, fun h3 sb3 => ⟨_, H', I2.turned (t' := s2.toks) (fun b o hb e => (sb3.2 b hb).trans e) F.1 F.2.1 F.2.2.2.1 F.2.2.2.2.1 F.2.2.2.2.2, q⟩⟩⟩
end
end Tw

/-! the rules of ours within an except suite; a def called there -/
namespace Tw
open PySem PySem.Spec PyProof.Rows L2 HotX L2H
abbrev SIZ (G : Gm) (X : Cx) (Wx : WX) (tg iter : Expr) (f : FI) : Prop := PIZ X tg iter (cI G Wx f)
section
variable {G : Gm} {X : Cx} {Wx : WX} {tg l : Expr} {f : FE} {sts : List Stmt} {pos : Pos}
theorem siz_list (hK : X.K = G.K) (hl : SE G X Wx l f) : SIZ G X Wx tg l (fIl f) := by
  refine PIZw (piz_list hl) fun s H R q => ?_
  obtain ⟨fm, h, r, h', io, e, E, S, p⟩ := q
  refine cG_step E S e p fun a h1 e1 io1 H1 v x1 E1 rv => ?_
  split at e1
  · split at e1
    · rename_i xs ex
      cases e1
      obtain ⟨b, vs, rfl, hv, rvs⟩ := lstAt_r E1 ex rv
      cases rv with
      | ref ha => exact ⟨b, rfl, ⟨vs, by rw [hK]; exact hv⟩, by rw [hK]; exact p io1 H1 x1 E1 _ ⟨b, ha, rfl⟩⟩
    · cases e1
  · cases e1
    cases rv with
    | rl ha hr => exact ⟨_, rfl, ⟨_, by rw [hK]; exact ha.sq⟩, by rw [hK]; exact p io1 H1 x1 E1 _ ⟨_, _, ha, hr, rfl⟩⟩
  · cases e1
theorem siz_tup (hK : X.K = G.K) (hl : SE G X Wx l f) : SIZ G X Wx tg l (fIt f) := by
  refine PIZw (piz_tup hl) fun s H R q => ?_
  obtain ⟨fm, h, r, h', io, e, E, S, p⟩ := q
  refine cG_step E S e p fun a h1 e1 io1 H1 v x1 E1 rv => ?_
  split at e1
  · cases e1
    cases rv with
    | tup ha hr => exact ⟨_, rfl, ⟨_, .inl (.inl ha)⟩, by rw [hK]; exact p io1 H1 x1 E1 _ ⟨_, _, ha, hr, rfl⟩⟩
  · cases e1
theorem ss_forZ {tg iter : Expr} {fi : FI} {g : TG} {gt : GT} {fb : FSt} (hp : PassesOwn (model X.prog X.w) X.A X.env X.xe) (hc : HotC X) (hi : SIZ G X Wx tg iter fi) (hg : PG X tg g) (sg : SimG G g gt) (hb : SSs G X Wx sts fb)
    (hs : ∀ x, foldedSetIterable iter X.env x = pure x := by intro _; rfl) : SS G X Wx (.For tg iter sts [] pos) (fFor fi gt fb) := PSw (psz_for hp hc hi hg hb hs) fun D s H q => by
  obtain ⟨fm, h, fl, fm', h', io, e, E, S, p⟩ := q
  refine cS_step E S e p fun src h1 e1 io1 H1 J x1 E1 rJ => ?_
  refine ⟨fun i m sr Hc => ∃ fmc hc ioc, forLoop src gt fb m i fmc hc = some (fl, fm', h') ∧ Emb G ioc hc Hc ∧ RSt G (adr ioc) Hc fmc sr ∧ Ext io1 H1 ioc Hc, ⟨_, fm, h1, io1, e1, E1, S.ext x1, Ext.refl⟩, ?_⟩
  rintro i m sr Hc ⟨fmc, hc, ioc, ec, Ec, Sc', xc⟩
  cases m with
  | zero => simp [forLoop] at ec
  | succ k =>
    have rJc := rJ.ext xc
    unfold forLoop at ec
    split at ec
    · cases ec
    · rename_i en
      cases ec
      exact .inl ⟨rJc.stop Ec en, p ioc Hc sr (x1.trans xc) Ec Sc'⟩
    · rename_i w en
      obtain ⟨q1, q2⟩ := rJc.go Ec en
      refine .inr ⟨q1, _, fun sr' H' z => ⟨k, Nat.lt_succ_self k, z⟩, fun x H' y => ?_⟩
      obtain ⟨xa, Ea, ra⟩ := q2 x H' y
      split at ec
      · cases ec
      · rename_i fm1 eg
        refine sg _ _ _ eg ioc hc H' sr x _ Ea (Sc'.ext xa) ra fun sr1 S1 => ?_
        split at ec
        · cases ec
        · rename_i fm2 h2 e2
          exact cS_last Ea S1 e2 fun io2 H2 sr2 x2 E2 S2 => ⟨fm2, h2, io2, ec, E2, S2, (xc.trans xa).trans x2⟩
        · rename_i fm2 h2 e2
          exact cS_last Ea S1 e2 fun io2 H2 sr2 x2 E2 S2 => ⟨fm2, h2, io2, ec, E2, S2, (xc.trans xa).trans x2⟩
        · rename_i fm2 h2 e2
          cases ec
          exact cS_last Ea S1 e2 fun io2 H2 sr2 x2 E2 S2 => p io2 H2 sr2 (((x1.trans xc).trans xa).trans x2) E2 S2
        · rename_i w2 fm2 h2 e2
          cases ec
          exact cS_last Ea S1 e2 fun io2 H2 sr2 x2 E2 S2 => p io2 H2 sr2 (((x1.trans xc).trans xa).trans x2) E2 S2
        · rename_i c2 fm2 h2 e2
          cases ec
          exact cS_last Ea S1 e2 fun io2 H2 sr2 x2 E2 S2 => p io2 H2 sr2 (((x1.trans xc).trans xa).trans x2) E2 S2
theorem ss_setLcZ (i : Nat) {x : Str} {py : Pos} {elt iter : Expr} {ifs : List Expr} {scope : Scope} {pos spos : Pos} {fi : FI} {i0 : Nat} {vs : List Nat} {ft : FT} {fe : FE} {y : Str} {px : Pos} (hc : HotC X) (hN : X.N.Nodup) (hy : X.N[i]? = some y) (hyl : X.env.scope.names.lookup y = some .local)
    (hsw : swapsWith (.ListComp elt [⟨.Name x px, iter, ifs, 0⟩] scope pos) (some (.Name y py)) spos.line X.env = pure true) (own : List (Str × Nat)) (hvs : own.map (·.2) = vs) (hi : SIZ G X Wx (.Name x px) iter fi) (ok : BlkOk X.N X.env.scope scope own) (hi0 : i0 ∈ vs)
    (hg : ∀ (s : Shared) (H : Hp) (C : Addr) (cl : List (Str × Addr)) (fp : List Addr), PG (X.blk s H scope (compEnvC scope cl C X.env) fp) (.Name x px) (gName i0)) (ht : ∀ (s : Shared) (H : Hp) (C : Addr) (cl : List (Str × Addr)) (fp : List Addr), PTs (X.blk s H scope (compEnvC scope cl C X.env) fp) ifs (cT G WF ft))
    (he : ∀ (s : Shared) (H : Hp) (C : Addr) (cl : List (Str × Addr)) (fp : List Addr), SE G (X.blk s H scope (compEnvC scope cl C X.env) fp) WF elt fe) (hs : ∀ x, foldedSetIterable iter X.env x = pure x := by intro _; rfl) (frv : ∀ v ∈ vs, G.Free v := by first | exact fun _ _ _ z => nomatch z | (intro v hv a z; simp at hv z; omega)) (fr : G.Free i := by first | exact fun _ z => nomatch z | (intro _ z; simp at z)) :
    SS G X Wx (.Assign [.Name y py] (.ListComp elt [⟨.Name x px, iter, ifs, 0⟩] scope pos) spos) (fSet i (fLc fi i0 vs ft fe)) := PSw (psz_setLc hc hN hy hyl hsw hi ok hg ht he hs) fun D s H q => by
  rw [hvs]
  obtain ⟨fm, h, fl, fm', h', io, e, E, S, p⟩ := q
  refine lc_read hi0 frv ?_
  refine cS_step E S e p fun a h1 e1 io1 H1 v x1 E1 rv => ?_
  cases e1
  exact p io1 H1 _ x1 E1 ((S.ext x1).set fr rv)
/-- o.f = value, f the j-th field of the class c -/
theorem se_lcRZ {pos : Pos} {elt iter : Expr} {ifs : List Expr} {scope : Scope} {fi : FI} {i0 : Nat} {vs : List Nat} {ft : FT} {fe : FE} {x : Str} {px : Pos} (hc : HotC X) (hN : X.N.Nodup) (own : List (Str × Nat)) (hvs : own.map (·.2) = vs) (hi : SIZ G X Wx (.Name x px) iter fi) (ok : BlkOk X.N X.env.scope scope own) (hi0 : i0 ∈ vs)
    (hg : ∀ (s : Shared) (H : Hp) (C : Addr) (cl : List (Str × Addr)) (fp : List Addr), PG (X.blk s H scope (compEnvC scope cl C X.env) fp) (.Name x px) (gName i0)) (ht : ∀ (s : Shared) (H : Hp) (C : Addr) (cl : List (Str × Addr)) (fp : List Addr), PTs (X.blk s H scope (compEnvC scope cl C X.env) fp) ifs (cT G WF ft))
    (he : ∀ (s : Shared) (H : Hp) (C : Addr) (cl : List (Str × Addr)) (fp : List Addr), SE G (X.blk s H scope (compEnvC scope cl C X.env) fp) WF elt fe) (hs : ∀ x, foldedSetIterable iter X.env x = pure x := by intro _; rfl) (fr : ∀ v ∈ vs, G.Free v := by first | exact fun _ _ _ z => nomatch z | (intro v hv a z; simp at hv z; omega)) :
    SE G X Wx (.ListComp elt [⟨.Name x px, iter, ifs, 0⟩] scope pos) (fLcR fi i0 vs ft fe) := PEw (pe_fz (pez_lc hc hN hi ok hg ht he hs)) fun _ _ _ q => by
  rw [hvs]
  exact lc_readF hi0 fr q
end
/-! ### a def that is called there -/
abbrev FnVH (G : Gm) (P : Program) (w : World) (K : PySem.W.Frag) (mg : Str → Option Value) (base : Heap) (k : Nat) (f : Addr) (fd : FuncData) (ps : List Str) (F : Fn) : Prop := FnH P w K mg base (L2N.CX P w) k f fd ps (spF G F)
section
variable {G : Gm} {P : Program} {w : World} {K : PySem.W.Frag} {mg : Str → Option Value} {base : Heap}
theorem fnVH_of {x qual : Str} {st : Stmt} {f : Addr} {fd : FuncData} {N ps : List Str} {k : Nat} {fb : FSt} (np : G.pin = none) (F : Fun K x qual st f fd) (S : FnScope N ps (defScope st))
    (hbody : ∀ (cdv : Value) (A : Around) (outer : List Env) (s : Shared) (H : Hp) (E : XK) (p : Addr × Obj), HotC (cxH (L2N.CX P w) P w K mg base N qual (defScope st) f cdv A outer s H E p) → RoomH k (A.deeper (envOfC qual (defScope st) s.heap.objs.size f cdv)) →
      L2N.Takes (cxH (L2N.CX P w) P w K mg base N qual (defScope st) f cdv A outer s H E p) (fun cls d _ H1 => E cls d H1) →
      PassesOwn (model P w) (cxH (L2N.CX P w) P w K mg base N qual (defScope st) f cdv A outer s H E p).A (cxH (L2N.CX P w) P w K mg base N qual (defScope st) f cdv A outer s H E p).env (cxH (L2N.CX P w) P w K mg base N qual (defScope st) f cdv A outer s H E p).xe →
      SSs G (cxH (L2N.CX P w) P w K mg base N qual (defScope st) f cdv A outer s H E p) (fun cls d _ H1 => E cls d H1) (defBody st) fb) :
    FnVH G P w K mg base (k + 1) f fd ps (runB N.length ps.length fb) := by
  obtain ⟨oc, od, kV, doc, pm, an, cdv, ct, osl, rfl, lk, hcd⟩ := F.ex
  refine fn_ofH lk hcd S (fun vs H Q E h => ?_) (fun A outer s H vs Q E p hot hr h => ?_)
  · obtain ⟨ws, h, r, h', io, e, E, R, p⟩ := h
    unfold runB at e
    split at e
    · rename_i hl
      rw [← R.length]; exact hl
    · cases e
  · refine ⟨_, hbody cdv A outer s H E p ⟨p, hot, List.mem_cons_self⟩ hr (L2N.takes_of rfl rfl rfl rfl) (passes_of rfl), ?_⟩
    obtain ⟨ws, h, r, h', io, e, E, R, p⟩ := h
    unfold runB at e
    split at e
    · split at e
      · rename_i fm1 h1 e1
        cases e
        exact ⟨_, h, _, _, _, io, e1, E, start_rel np R, fun io' H' sr' x' E' S' => p io' H' x' E' _ .non⟩
      · rename_i w1 fm1 h1 e1
        cases e
        exact ⟨_, h, _, _, _, io, e1, E, start_rel np R, fun io' H' sr' x' E' S' => p io' H' x' E'⟩
      · rename_i c1 fm1 h1 e1
        cases e
        exact ⟨_, h, _, _, _, io, e1, E, start_rel np R, fun io' H' sr' x' E' S' => p io' H' x' E'⟩
      · cases e
    · cases e
theorem FnVH.abs {k : Nat} {f : Addr} {fd : FuncData} {ps : List Str} {F S : Fn} (Fn : FnVH G P w K mg base k f fd ps F)
    (hS : ∀ ws h r h', S ws h = some (r, h') → ∀ io H, Emb G io h H → ∃ wc hc rc hc' ioc, F wc hc = some (rc, hc') ∧ Emb G ioc hc H ∧ (∀ vs, RWs G.K (adr io) H ws vs → RWs G.K (adr ioc) H wc vs) ∧
      ∀ ioc' H', Ext ioc H ioc' H' → Emb G ioc' hc' H' → ∃ io', Ext io H io' H' ∧ Emb G io' h' H' ∧ RelR G ioc' io' H' rc r) : FnVH G P w K mg base k f fd ps S := by
  have imp : ∀ vs H Q E, spF G S vs H Q E → spF G F vs H Q E := fun vs H Q E h => by
    obtain ⟨ws, h, r, h', io, e, Em, R, p⟩ := h
    obtain ⟨wc, hc, rc, hc', ioc, e1, E1, R1, k1⟩ := hS ws h r h' e io H Em
    refine ⟨wc, hc, rc, hc', ioc, e1, E1, R1 vs R, fun ioc' H' x' E' => ?_⟩
    obtain ⟨io', x2, E2, rr⟩ := k1 ioc' H' x' E'
    have z := p io' H' x2 E2
    cases rc with
    | ok a =>
      cases r with
      | ok b => exact fun v rv => z v (rr v rv)
      | ex c => exact rr.elim
    | ex c =>
      cases r with
      | ok b => exact rr.elim
      | ex c' =>
        cases (show c = c' from rr)
        exact z
  exact ⟨fun vs H Q E q => Fn.len vs H Q E (imp _ _ _ _ q), fun A outer s H args us vs Q E p hr hh hq he hb hv hs => Fn.run A outer s H args us vs Q E p hr hh hq he hb hv (imp _ _ _ _ hs)⟩
theorem box_hyp {F S : Fn}
    (hS : ∀ ws h r h', S ws h = some (r, h') → ∃ n c c' rest os os' rc hc' t xl, ws = .ref n :: rest ∧ NoRs rest ∧ h[n]? = some c ∧ boxOf c = some os ∧ F (.ref 0 :: rest) (os.map Cell.pl) = some (rc, hc') ∧
      IsBox c' os' ∧ Lies t os' hc' ∧ t.Nodup ∧ t[0]? = some 0 ∧ BoxEnd h.length hc' t rc r xl ∧ h' = h.set n c' ++ xl) : ∀ ws h r h', S ws h = some (r, h') → ∀ io H, Emb G io h H → ∃ wc hc rc hc' ioc, F wc hc = some (rc, hc') ∧ Emb G ioc hc H ∧ (∀ vs, RWs G.K (adr io) H ws vs → RWs G.K (adr ioc) H wc vs) ∧
      ∀ ioc' H', Ext ioc H ioc' H' → Emb G ioc' hc' H' → ∃ io', Ext io H io' H' ∧ Emb G io' h' H' ∧ RelR G ioc' io' H' rc r := by
  intro ws h r h' e io H E
  obtain ⟨n, c, c', rest, os, os', rc, hc', t, xl, rfl, nr, hn, hb, eF, ib, L, nd, t0, be, rfl⟩ := hS ws h r h' e
  obtain ⟨l, el, rc0⟩ := E.at_ n c hn
  have hbx := boxOf_r rc0 hb
  have hl0 : l.Nodup := sub_nodup E.nd el
  refine ⟨_, _, rc, hc', l.map fun a => [a], eF, hbx.emb hl0, fun vs r => ?_, fun ioc' H' x' E' => ?_⟩
  · cases r with
    | cons r1 r2 =>
      refine .cons ?_ (nr.rel r2)
      cases r1 with
      | ref z =>
        refine .ref ?_
        rw [adr_single, ← List.head?_eq_getElem?]
        unfold adr at z
        rw [el] at z
        exact z
  · obtain ⟨x2, E2, dis⟩ := box_back E hn el hbx x' E' ib L nd t0
    cases be with
    | ex c =>
      rw [List.append_nil]
      exact ⟨_, x2, E2, rfl⟩
    | val hw =>
      rw [List.append_nil]
      exact ⟨_, x2, E2, fun v rv => hw.rel rv⟩
    | @lst m xs hm rx nt =>
      obtain ⟨b, eb1, eb2, vs, hv, rvs⟩ := E'.pl hm
      have nb : b ∉ (io.set n (adrs ioc' t)).flatten := fun z => by
        rcases mem_set_flat z with y | ⟨m', l', hm', em', y⟩
        · obtain ⟨i, k', ek1, ek2⟩ := L.mem E' y
          have ne : m ≠ k' := fun q => nt (by subst q; exact List.mem_of_getElem? ek1)
          exact nodup_flat_ne E'.nd eb1 ek2 ne List.mem_cons_self List.mem_cons_self
        · rcases x'.own b (mem_flat eb1 List.mem_cons_self) with q | q
          · rw [flat_single] at q
            exact nodup_flat_ne E.nd em' el hm' y q
          · exact E.fresh q (mem_flat em' y)
      have nH : b ∈ l ∨ H b = none := by
        rcases x'.own b (mem_flat eb1 List.mem_cons_self) with q | q
        · rw [flat_single] at q; exact .inl q
        · exact .inr q
      refine ⟨io.set n (adrs ioc' t) ++ [[b]], ⟨fun i a z => adr_app (x2.root i a z), fun a ha => ?_, x2.keep, x2.trk, x2.tup⟩, ⟨by simp [E.len], ?_, fun i cc ei => ?_⟩, fun v rv => ?_⟩
      · rw [List.flatten_append, List.mem_append] at ha
        rcases ha with z | z
        · exact x2.own a z
        · simp at z
          subst z
          rcases nH with q | q
          · exact .inl (mem_flat el q)
          · exact .inr q
      · rw [List.flatten_append, List.nodup_append]
        refine ⟨E2.nd, by simp, fun a ha b' hb' z => ?_⟩
        simp at hb'
        subst hb'
        subst z
        exact nb ha
      · by_cases q : i < (h.set n c').length
        · rw [List.getElem?_append_left q] at ei
          obtain ⟨li, eli, ri⟩ := E2.at_ i cc ei
          refine ⟨li, ?_, ri.mono (fun _ _ z => adr_app z) (fun _ _ z _ => z) fun _ _ _ z => z⟩
          rw [List.getElem?_append_left (by rw [E2.len]; exact q)]
          exact eli
        · have hi : i = (h.set n c').length := by
            have := (List.getElem?_eq_some_iff.mp ei).1
            simp at this q ⊢
            omega
          subst hi
          rw [List.getElem?_append_right (Nat.le_refl _)] at ei
          simp at ei
          subst ei
          refine ⟨[b], ?_, b, rfl, vs, hv, rx.rel rvs⟩
          rw [← E2.len, List.getElem?_append_right (Nat.le_refl _)]
          simp
      · cases rv with
        | ref z =>
          rw [eb2] at z
          cases z
          refine .ref ?_
          have : h.length = (io.set n (adrs ioc' t)).length := by rw [E2.len, List.length_set]
          rw [this]
          exact adr_new
end
section
variable {G : Gm} {X : Cx} {Wx : WX} {k : Nat} {f C : Addr} {fd : FuncData} {ps : List Str} {F : Fn} {x m : Str} {p pos apos : Pos} {e o : Expr} {es : List Expr} {fs : List FE} {fo : FE}
theorem pe_meth0Z {pl : Sem Bool} {CX : CXT} {sp : Sp} {E : L2.St → XK} {ta : TE} (he : PE X o ta) (c : Cls X.K C) (hm : Meth X.K C m f) (Fn : FnH X.prog X.w X.K X.mg X.base CX k f fd ps sp) (hr : RoomH k X.A) (hc : HotC X) (hb : Binds X.K fd ps []) (hx : ∀ s, PassesAt CX X s (E s))
    (ht : eval (.Call (.Attribute o m apos) [] [] pos) X.env = (do
      let ov ← eval o X.env
      standAt apos.atName
      let (f, first) ← holding [ov] (getMethod ov m pl)
      callWith pos f first (backTo pos (starEach [] X.env)) (backToKw pos (keywordEach [] X.env))) := by rfl) :
    PE X (.Call (.Attribute o m apos) [] [] pos) (tMethX C m sp E ta tNil) := ⟨fun pins s σ H Q I h => by
  refine PySem.W.methodCall_KW (pl := pl) (thn (he.run pins s σ H _ I h) fun u s1 ⟨x, H1, I1, rx, a, dx, fs, ex, ea, l, q⟩ => ?_) ht
  subst ex
  obtain rfl : u = Value.ref a := rx
  exact getmeth_ok I1 ea c hm l (PySem.W.callWith_K0 (first := [.ref a]) I1.kIn hm.kp (run_fnH (us := [.ref a]) (vs := [.ref a]) Fn hr hc hb (hx σ) I1 (.cons rfl .nil) q))⟩
theorem se_meth0Z (c : Nat) {pl : Sem Bool} (ho : SE G X Wx o fo) (cl : Cls X.K (G.C c)) (hm : Meth X.K (G.C c) m f) (hno : m ∉ G.fl c) (Fn : FnVH G X.prog X.w X.K X.mg X.base k f fd ps F) (hr : RoomH k X.A) (hc : HotC X) (hb : Binds X.K fd ps []) (tk : L2N.Takes X Wx)
    (ht : eval (.Call (.Attribute o m apos) [] [] pos) X.env = (do
      let ov ← eval o X.env
      standAt apos.atName
      let (f, first) ← holding [ov] (getMethod ov m pl)
      callWith pos f first (backTo pos (starEach [] X.env)) (backToKw pos (keywordEach [] X.env))) := by rfl) :
    SE G X Wx (.Call (.Attribute o m apos) [] [] pos) (fMeth c F fo []) := PEw (pe_meth0Z ho cl hm Fn hr hc hb (fun s => L2N.passAt tk s) ht) fun s H Q q => by
  have z := meth_read hno q
  obtain ⟨fm, h, r, h', io, e, E, S, p⟩ := z
  exact ⟨fm, h, r, h', io, e, E, S, fun io' H' x' E' => by
    have y := p io' H' x' E'
    cases r with
    | ex c => exact y
    | ok w =>
      intro v rv
      obtain ⟨a, dx, fs, e1, e2, e3, q⟩ := y v rv
      exact ⟨a, dx, fs, e1, e2, e3, nil_read q⟩⟩
end
section
variable {G : Gm} {P : Program} {w : World} {K : PySem.W.Frag} {mg : Str → Option Value} {base : Heap} {kk : Nat} {f : Addr} {fd : FuncData} {ps : List Str} {B : Fn}
theorem okVH {k : BK} {m : Mth} (okB : FnVH G P w K mg base kk f fd ps B)
    (hm : ∀ T rest r T', T.Good Lim → m T rest = some (r, T') → NoRs rest ∧ ResOk r ∧ ∃ hc' t, B (.ref 0 :: rest) ((k.can T).map Cell.pl) = some (r, hc') ∧ Lies t (k.can T') hc' ∧ t.Nodup ∧ t[0]? = some 0) : FnVH G P w K mg base kk f fd ps (onV k m) := by
  refine FnVH.abs okB (box_hyp fun ws h r h' e => ?_)
  unfold onV at e
  split at e
  · rename_i n rest
    split at e
    · rename_i T eT
      obtain ⟨c, e1, e2⟩ := Option.bind_eq_some_iff.mp eT
      have hc := k.h1 c T e2
      subst hc
      split at e
      · rename_i g
        split at e
        · rename_i r' T' em
          cases e
          obtain ⟨n1, n2, hc', t, b1, b2, b3, b4⟩ := hm T rest r T' g em
          refine ⟨n, _, k.bx T', rest, k.can T, k.can T', r, hc', t, [], rfl, n1, e1, k.h2 T, b1, k.h3 T', b2, b3, b4, ?_, (List.append_nil _).symm⟩
          cases r with
          | ex c => exact .ex c
          | ok w => exact .val n2
        · cases e
      · cases e
    · cases e
  · cases e
end
theorem roomM {k : Nat} {A : Around} {x : Option Value} (r : Room k A) : RoomH k (A.mark x) := ⟨r.dp, r.un⟩
end Tw

namespace Tw
open PySem PySem.Spec PyProof.Rows L2
/-! list.insert -/
@[simp] def gIns : GM := fun a ws h => match ws, lstOf h a with
  | [.int i, w], some (n, xs) => if xs.length < sizeLine ∧ 0 ≤ i ∧ i < 2 ^ 63 then some (.non, h.set n (.pl (.lst (xs.take i.toNat ++ [w] ++ xs.drop i.toNat)))) else none
  | _, _ => none
theorem sim_ins {G : Gm} : SimM G (fun x vs H Q => ∃ (l : Addr) (xs : List V) (i : Int) (y : V), x = .ref l ∧ vs = [.int i, y] ∧ H l = some (.lst xs) ∧ xs.length < sizeLine ∧ 0 ≤ i ∧ i < 2 ^ 63 ∧ Q .non (upd H l (.lst (xs.take i.toNat ++ [y] ++ xs.drop i.toNat)))) gIns := by
  intro a ws h w h' e io H x vs Q E ra rs p
  unfold gIns at e
  split at e
  · rename_i i w1 n xs e1
    split at e
    · rename_i hc
      cases e
      obtain ⟨v, u, rfl, rv, ru⟩ := rws2 rs
      cases rv
      obtain ⟨b, us, rfl, hn, ei, hv, rvs⟩ := lstOf_r E e1 ra
      refine ⟨b, us, i, u, rfl, rfl, hv, by rw [← rvs.length]; exact hc.1, hc.2.1, hc.2.2, ?_⟩
      exact p.write E hn ei trivial ⟨_, upd_same, (((rvs.take _).append (.cons ru .nil)).append (rvs.drop _)).wr hv trivial⟩ .non
    · cases e
  · cases e
end Tw

/-! a lambda of one parameter, handed to a def and called there -/
namespace Tw
open PySem PySem.Spec PyProof.Rows L2 HotX L2H
open LamX (CodeO TabB lam_make2)
structure LamS1 (sc scope : Scope) (x : Str) : Prop where
  kind : scope.kind = .function
  co : scope.isCoroutine = false
  gen : scope.isGenerator = false
  par : scope.names.lookup x = some .local
  cel : ∀ y ∈ scope.names, y.2 ≠ .cell
  own : ∀ y : Str, scope.names.lookup y = some .local → y = x
  free : ∀ y ∈ scope.names, y.2 = .free → sc.names.lookup y.1 = some .cell ∨ sc.names.lookup y.1 = some .free
theorem LamS1.has {X : Cx} {scope : Scope} {x : Str} (L : LamS1 X.env.scope scope x) (ok : X.Ok) : ∀ y ∈ scope.names, y.2 = .free → ∃ c, X.env.cells.lookup y.1 = some c := fun y hy e =>
  (L.free y hy e).elim (fun k => ok.has _ (.inl k)) fun k => ok.has _ (.inr k)
def lamS1B (sc scope : Scope) (x : Str) : Bool :=
  decide (scope.kind = .function) && !scope.isCoroutine && !scope.isGenerator && decide (scope.names.lookup x = some .local) &&
    scope.names.all fun y => !decide (y.2 = .cell) && (!decide (y.2 = .local) || decide (y.1 = x)) && (!decide (y.2 = .free) || decide (sc.names.lookup y.1 = some .cell) || decide (sc.names.lookup y.1 = some .free))
theorem lamS1_by {sc scope : Scope} {x : Str} (h : lamS1B sc scope x = true) : LamS1 sc scope x := by
  unfold lamS1B at h
  simp only [Bool.and_eq_true, Bool.or_eq_true, Bool.not_eq_true', decide_eq_true_eq, decide_eq_false_iff_not, List.all_eq_true] at h
  obtain ⟨⟨⟨⟨h1, h2⟩, h3⟩, h4⟩, h5⟩ := h
  refine ⟨h1, h2, h3, h4, fun y hy => (h5 y hy).1.1, fun y hy => ?_, fun y hy e => ?_⟩
  · have m : (y, NameKind.local) ∈ scope.names := PySem.mem_of_lookup hy
    rcases (h5 _ m).1.2 with z | z
    · exact absurd rfl z
    · exact z
  · rcases (h5 y hy).2 with (z | z) | z
    · exact absurd e z
    · exact .inl z
    · exact .inr z
abbrev lamEv (X : Cx) (scope : Scope) (L f c' : Addr) : Env := LamX.lamEnv X scope L f c'
/-- the context of its body -/
def lamC1 (X : Cx) (A : Around) (outer : List Env) (s : Shared) (H : Hp) (E : XK) (scope : Scope) (f c' : Addr) (x : Str) : Cx where
  prog := X.prog
  w := X.w
  K := X.K
  mg := X.mg
  base := X.base
  A := A.deeper (lamEv X scope s.heap.objs.size f c')
  N := X.N ++ [x]
  s_0 := s
  H_0 := H
  env := lamEv X scope s.heap.objs.size f c'
  outer := outer
  stack := lamEv X scope s.heap.objs.size f c' :: outer
  ex := []
  fn := fun _ => false
  calm := true
  pn := []
  xe := fun e s' => wpAny (model X.prog X.w) (A.deeper (lamEv X scope s.heap.objs.size f c')) (leaving (lamEv X scope s.heap.objs.size f c') e) (fun _ s'' => L2N.CX X.prog X.w outer H s E e s'') (fun e' s'' => L2N.CX X.prog X.w outer H s E e' s'') s'
section
variable {X : Cx} {ps : List (Addr × Obj)} {σ : L2.St} {H HZ : Hp} {s s1 : Shared} {x : Str}
theorem lam_start1 {A : Around} {outer : List Env} {E : XK} {scope : Scope} {f c' : Addr} {h1 : Heap} {tk : Nat} {v : V} {u : Value} (I : Inv X ps σ H s) (L : LamS1 X.env.scope scope x) (nx : x ∉ X.N) (e0 : Env0 X.prog X.w X.K X.mg X.base A outer s1 HZ) (hd : A.handled = none)
    (un : Un (frs X.stack) [] H HZ s.heap s1.heap) (hns : h1.Ns s1.heap.objs.size fun y => ([(x, u)] : List (Str × Value)).reverse.lookup y) (kp : ∀ b o, s1.heap.get? b = some o → h1.get? b = some o) (rv : RelV v u) :
    Inv (lamC1 X A outer s1 HZ E scope f c' x) [] (σ ++ [some v]) HZ { s1 with heap := h1, toks := tk } := by
  have hfree := L.has I.ok
  have cm : ∀ {y c}, (cloFrom X.env.cells scope.names []).lookup y = some c → X.env.cells.lookup y = some c := fun {y c} e => by
    rcases cloFrom_mem (PySem.mem_of_lookup e) with hm | ⟨a1, a2⟩
    · cases hm
    · obtain ⟨c1, hc⟩ := hfree _ a1 rfl
      have hc : X.env.cells.lookup y = some c1 := hc
      have e2 : c = c1 := by rw [a2, hc] <;> rfl
      rw [e2]; exact hc
  have look : ∀ {y}, scope.names.lookup y = some .free → ∃ c, (cloFrom X.env.cells scope.names []).lookup y = some c := fun {y} hl => mem_lookup (cloFrom_has (cells := X.env.cells) (acc := []) (PySem.mem_of_lookup hl))
  have cellK : ∀ {c : Addr} {v : Option Value}, H c = none → s.heap.IsCell c v → h1.IsCell c v := fun {c v} n ⟨o, ho, hd⟩ => by
    obtain ⟨sl, q⟩ := un.any ho n (by simp)
    exact ⟨_, kp _ _ q, hd⟩
  have noA : ∀ b : Addr, b ∉ (lamC1 X A outer s1 HZ E scope f c' x).ex := fun b z => by cases (show b ∈ ([] : List Addr) from z)
  refine ⟨⟨e0.mod, L.kind, rfl, rfl, Nat.le_refl _, fun y z c e1 e2 => I.ok.inj y z c (cm e1) (cm e2), fun y hy => ?_, fun y c z _ => Bool.noConfusion (show false = true from z), fun _ => hd, Around.frames_deeper e0.frames, .inr ⟨rfl, rfl⟩, fun b z => absurd z (noA b), e0.bs, e0.bsz, fun b _ _ => noA b, fun b z => absurd z (noA b), e0.funs, e0.frf⟩,
    rfl, e0.bare, Un.kept kp, ⟨_, hns, fun i y v' e1 e2 e3 => ?_⟩, fun y c e => ?_, e0.hok.fresh (Nat.le_refl _), fun y c e => ?_, (fun q hq => by cases (show q ∈ ([] : List (Addr × Obj)) ++ [] from hq)), e0.hok.kept kp, ?_⟩
  · have hy : scope.names.lookup y = some .cell ∨ scope.names.lookup y = some .free := hy
    rcases hy with hy | hy
    · exact absurd rfl (L.cel _ (PySem.mem_of_lookup hy))
    · exact look hy
  · have e1 : (X.N ++ [x])[i]? = some y := e1
    have e3 : Vis scope y := e3
    have hlen : σ.length = X.N.length := I.len
    by_cases q : i < X.N.length
    · rw [List.getElem?_append_left q] at e1
      rw [List.getElem?_append_left (by rw [hlen]; exact q)] at e2
      have nyx : y ≠ x := fun z => nx (by rw [← z]; exact List.mem_of_getElem? e1)
      rcases e3 with k | k | k
      · exact absurd (L.own y k) nyx
      · exact absurd rfl (L.cel _ (PySem.mem_of_lookup k))
      · obtain ⟨m, hn, hl⟩ := I.loc
        have hvis : Vis X.env.scope y := (L.free _ (PySem.mem_of_lookup k) rfl).elim (fun k => .inr (.inl k)) (fun k => .inr (.inr k))
        obtain ⟨w', r, z⟩ := hl i y v' e1 e2 hvis
        obtain ⟨c2, h2⟩ := look k
        refine ⟨w', r, .inr ⟨.inr k, c2, h2, ?_⟩⟩
        have c1 := cm h2
        rcases z with ⟨k', _⟩ | ⟨_, c3, e', z⟩
        · have k' : X.env.scope.names.lookup y = some .local := k'
          rcases L.free _ (PySem.mem_of_lookup k) rfl with k2 | k2 <;> rw [show X.env.scope.names.lookup y = _ from k2] at k' <;> cases k'
        · rw [c1] at e'
          cases e'
          exact cellK (I.freeC y _ c1) z
    · have hi : i = X.N.length := by
        have := (List.getElem?_eq_some_iff.mp e1).1
        simp at this
        omega
      subst hi
      rw [List.getElem?_append_right (Nat.le_refl _)] at e1
      simp at e1
      subst e1
      rw [← hlen, List.getElem?_append_right (Nat.le_refl _)] at e2
      simp at e2
      subst e2
      exact ⟨u, rv, .inl ⟨L.par, by simp⟩⟩
  · obtain ⟨w', z⟩ := I.cell y c (cm e)
    exact ⟨w', cellK (I.freeC y c (cm e)) z⟩
  · obtain ⟨v, o, ho, hd⟩ := I.cell y c (cm e)
    exact un.free c o ho (I.freeC y c (cm e)) (by simp)
  · have hlen : σ.length = X.N.length := I.len
    show (σ ++ [some v]).length = (X.N ++ [x]).length
    simp [hlen]
/-- a(t), in the def that got the lambda -/
theorem pe_act1 {CXg : CXT} {Eg : XK} {Ng : List Str} {qg : Str} {sg : Scope} {g f c' : Addr} {cdg pm ctv : Value} {params : Arguments} {body : Expr} {scope : Scope} {k i i2 : Nat} {a t : Str} {pn : List (Addr × Obj)} {xe : Value → Shared → Prop} {W : WX} {tb : XK → TE} {p1 p2 p3 : Pos}
    (I : Inv X ps σ H s) (L : LamS1 X.env.scope scope x) (nx : x ∉ X.N) (hf : s.heap.get? f = some (PySem.W.kla_obj "<lambda>" (X.env.qual ++ "<lambda>") params body scope (cloFrom X.env.cells scope.names []) pm c' ctv)) (hfn : H f = none) (hfr : f ∉ frs X.stack)
    (hbind : ∀ u : Value, bindArgs (PySem.W.kla_fn "<lambda>" (X.env.qual ++ "<lambda>") params body scope (cloFrom X.env.cells scope.names []) pm (.ref c') ctv) ⟨[u], []⟩ = pure [(x, u)])
    (tk : L2N.Takes ((cxOf CXg X.prog X.w X.K X.mg X.base Ng qg sg g cdg X.A X.stack s H Eg).tr pn xe) W) (hr : Room (k + 1) (X.A.deeper (envOfC qg sg s.heap.objs.size g cdg)))
    (hbody : ∀ (E : XK) (A : Around) (outer : List Env) (s : Shared) (H : Hp), Room k (A.deeper (lamEv X scope s.heap.objs.size f c')) → PE (lamC1 X A outer s H E scope f c' x) body (tb E))
    (hN : Ng[i]? = some a) (hv : Vis sg a) (hN2 : Ng[i2]? = some t) (hv2 : Vis sg t) (hd : (a == ("__debug__" : Str)) = false := by decide) (hcd : (a == ("__classdict__" : Str)) = false := by decide) (hd2 : (t == ("__debug__" : Str)) = false := by decide) (hcd2 : (t == ("__classdict__" : Str)) = false := by decide) :
    PE ((cxOf CXg X.prog X.w X.K X.mg X.base Ng qg sg g cdg X.A X.stack s H Eg).tr pn xe) (.Call (.Name a p1) [.Name t p3] [] p2)
      (fun σZ HZ Q => σZ[i]? = some (some (.ref f)) ∧ HZ c' = some (CodeO c' (X.env.qual ++ "<lambda>")) ∧ ∃ v, σZ[i2]? = some (some v) ∧ tb (WE W σZ) (σ ++ [some v]) HZ Q) := by
  refine ⟨fun psZ sZ σZ HZ Q IZ ⟨hs, hc, v, hv0, ht⟩ => ?_⟩
  refine wpAny_Call_Name_kw (thn ((pe_var (pos := p1) (i := i) hN hv hd hcd).run psZ sZ σZ HZ (fun v H1 => v = .ref f ∧ H1 = HZ) IZ ⟨.ref f, hs, rfl, rfl⟩) fun u0 s0 ⟨v1, H0, I0, r0, q0⟩ => ?_)
  obtain ⟨ev, eH⟩ := q0
  subst ev
  rw [eH] at I0
  obtain rfl : u0 = Value.ref f := r0
  have keepf : ∀ {t : Shared}, Inv ((cxOf CXg X.prog X.w X.K X.mg X.base Ng qg sg g cdg X.A X.stack s H Eg).tr pn xe) psZ σZ HZ t → t.heap.get? f = some (PySem.W.kla_obj "<lambda>" (X.env.qual ++ "<lambda>") params body scope (cloFrom X.env.cells scope.names []) pm c' ctv) := fun J => J.base.keep f _ hf hfn hfr (fun z => nomatch (show f ∈ ([] : List Addr) from z))
  refine PySem.W.callWith_F ⟨_, _, _, _, keepf I0⟩ ?_ (by rfl) (by rfl)
  change wpAny _ _ (spliced ((false, eval (.Name t p3) _) :: backTo p2 (starEach [] _))) _ _ s0
  refine Calls.spliced_cons (thn ((pe_var (pos := p3) (i := i2) hN2 hv2 hd2 hcd2).run psZ s0 σZ HZ (fun v' H1 => v' = v ∧ H1 = HZ) I0 ⟨v, hv0, rfl, rfl⟩) fun u s1 ⟨v2, H1, I1, r1, q1⟩ => ?_)
  obtain ⟨ev, eH⟩ := q1
  subst ev
  rw [eH] at I1
  refine Calls.spliced_nil ⟨⟨_, _, _, _, keepf I1⟩, ?_⟩
  have of1 := keepf I1
  have un : Un (frs X.stack) [] H HZ s.heap s1.heap := I1.base
  obtain ⟨⟨oc, vs, tt, hoc, hdc, hvc⟩, _, _⟩ := I1.hok c' _ hc
  have rc : codeAny (model X.prog X.w) (X.A.deeper (envOfC qg sg s.heap.objs.size g cdg)) (.call (.ref f) ⟨[u], []⟩) (CR (L2N.CX X.prog X.w) (envOfC qg sg s.heap.objs.size g cdg :: X.stack) X.prog X.w HZ s1 Q (WE W σZ)) s1 := by
    refine PySem.W.kla_callFunE hr.depth of1 rfl L.co L.gen rfl ⟨c', oc, vs, tt, rfl, hoc, hdc, hvc⟩ ?_
    rw [hbind u]
    refine wpAny_pure (wpAny_newFunctionEnv L.cel (fun y hy => by rw [List.mem_singleton.mp hy]; exact L.par) (fun h1 hns hsb => ⟨I1.nolimit.fresh _ hsb, ?_⟩) L.kind)
    change codeAny _ _ (.expr body (lamEv X scope s1.heap.objs.size f c')) _ _
    have kp : ∀ b o, s1.heap.get? b = some o → h1.get? b = some o := fun b o e => hsb.extBut b o (Nat.ne_of_lt (Heap.lt_size e)) (Heap.get?_push_of_some _ e)
    have J : Inv (lamC1 X (X.A.deeper (envOfC qg sg s.heap.objs.size g cdg)) (envOfC qg sg s.heap.objs.size g cdg :: X.stack) s1 HZ (WE W σZ) scope f c' x) [] (σ ++ [some v2]) HZ { s1 with heap := h1, toks := s1.toks + ([(x, u)] : List (Str × Value)).length } := lam_start1 I L nx I1.env0 hr.hd un hns kp r1
    exact PySem.W.kla_codeExpr (wpAny_mono ((hbody _ _ _ s1 HZ (hr.deeper _)).run [] _ _ HZ Q J ht) (fun v' s' ⟨w', H', J', rv, q⟩ => ⟨w', H', J'.os, J'.bare, J'.base, J'.hok, rv, q⟩) fun e s' hq => hq)
  have hx := L2N.passAt tk σZ
  refine wpAny_call (codeAny_mono rc fun r s' hq => ?_)
  cases r with
  | error e => exact hx psZ HZ s1 e s' I1 hq
  | ok fl =>
    cases fl with
    | ret u => exact I1.after hq
    | next => exact False.elim hq
    | brk => exact False.elim hq
    | cont => exact False.elim hq
end
end Tw

namespace Tw
open PySem PySem.Spec PyProof.Rows L2 HotX L2H
open LamX (CodeO TabB inv_table codeO_ne among_app)
/-! ### the lambda is made -/
section
variable {G : Gm} {X : Cx} {pins : List (Addr × Obj)} {σ : L2.St} {H : Hp} {s : Shared} {io : List (List Addr)} {h : VH}
theorem upd2_ne {H : Hp} {P c a : Addr} {u v : HO} (h1 : a ≠ P) (h2 : a ≠ c) : upd (upd H P u) c v a = H a := by rw [upd_ne h2, upd_ne h1]
theorem Emb.table (E : Emb G io h H) {n j : Nat} {c' : Addr} {q : Str} {pss more : Array Value} {pos : Pos} (hn : h[n]? = some (.tb j q)) (ei : io[n]? = some [G.C j]) (hP : H (G.C j) = some (.tbl pss)) (ht : TriplesOk pss.toList) (hk : ∀ (pos : Pos) (cv : Value), codeAmong pos pss.toList = some cv → ∃ c, cv = .ref c ∧ H c = some (CodeO c q))
    (nc : H c' = none) (hmore : (pss ++ more).toList = pss.toList ++ [rawInt pos.line, rawInt pos.col, .ref c']) :
    Emb G io h (upd (upd H (G.C j) (.tbl (pss ++ more))) c' (CodeO c' q)) ∧ Ext io H io (upd (upd H (G.C j) (.tbl (pss ++ more))) c' (CodeO c' q)) := by
  have nPc : G.C j ≠ c' := ne_of_none hP nc
  have hm : G.C j ∈ io.flatten := mem_flat ei List.mem_cons_self
  have st : Stay H (upd (upd H (G.C j) (.tbl (pss ++ more))) c' (CodeO c' q)) := fun a o e no => by
    rw [upd2_ne (fun z => by rw [z, hP] at e; cases e; exact no trivial) (ne_of_none e nc)]
    exact e
  have keep : ∀ a o, H a = some o → a ≠ G.C j → upd (upd H (G.C j) (.tbl (pss ++ more))) c' (CodeO c' q) a = some o := fun a o e z => by rw [upd2_ne z (ne_of_none e nc)]; exact e
  refine ⟨⟨E.len, E.nd, fun m c em => ?_⟩, ⟨fun _ _ e => e, fun _ z => .inl z, fun a o e na => keep a o e fun z => na (by rw [z]; exact hm), fun a e => ?_, st⟩⟩
  · obtain ⟨l, el, r⟩ := E.at_ m c em
    by_cases y : m = n
    · subst y
      rw [hn] at em
      cases em
      rw [ei] at el
      cases el
      refine ⟨[G.C j], ei, pss ++ more, rfl, by rw [upd_ne nPc, upd_same], by rw [hmore]; exact PySem.TriplesOk_snoc _ _ _ _ ht, fun p cv hcv => ?_⟩
      rw [hmore] at hcv
      rcases among_app _ ht hcv with z | z
      · obtain ⟨c, e1, e2⟩ := hk p cv z
        exact ⟨c, e1, st c _ e2 (by unfold CodeO; exact id)⟩
      · exact ⟨c', z, upd_same⟩
    · refine ⟨l, el, r.mono (fun _ _ z => z) st fun a ha u z => keep a u z fun w => ?_⟩
      subst w
      exact nodup_flat_ne E.nd el ei y ha List.mem_cons_self
  · by_cases z : a = c'
    · rw [z]; exact nc
    · by_cases w : a = G.C j
      · rw [w, upd_ne nPc, upd_same] at e; cases e
      · rw [upd2_ne w z] at e; exact e
theorem lam_mk {c : Addr} {n j : Nat} {params : Arguments} {body : Expr} {scope : Scope} {pos : Pos} {E' : Value → Shared → Prop} {Q : Value → Shared → Prop} (I : Inv X pins σ H s) (TB : TabB X.base X.mg c (G.C j)) (hcode : X.env.code = .ref c) (E : Emb G io h H) (hn : h[n]? = some (.tb j (X.env.qual ++ "<lambda>")))
    (hdef : defaultsOf params X.env = ([], [])) (hfree : ∀ y ∈ scope.names, y.2 = .free → ∃ c, X.env.cells.lookup y.1 = some c)
    (k : ∀ (f c' : Addr) (pm ctv : Value) (H1 : Hp) (s' : Shared), Inv X pins σ H1 s' → Ext io H io H1 → Emb G io h H1 → s'.heap.get? f = some (PySem.W.kla_obj "<lambda>" (X.env.qual ++ "<lambda>") params body scope (cloFrom X.env.cells scope.names []) pm c' ctv) → H1 f = none → f ∉ frs X.stack → f ≠ X.env.locals → H1 c' = some (CodeO c' (X.env.qual ++ "<lambda>")) → Q (.ref f) s') :
    wpAny (model X.prog X.w) X.A (eval (.Lambda params body scope pos) X.env) Q E' s := by
  obtain ⟨l, el, pss, rfl, hP0, ht, hk⟩ := E.at_ n _ hn
  refine PySem.W.kla_eval hdef ?_
  have bP : s.heap.BuiltinsAt X.mg (G.C j) := TB.bm.keeps I.bk
  have gP : s.heap.get? (G.C j) = some { cls := .none, data := .fields pss } := I.hok (G.C j) _ hP0
  have nofr : ∀ f, s.heap.objs.size ≤ f → f ∉ frs X.stack := fun f hf z => (List.mem_cons.mp (I.stkSub _ z)).elim (fun e => by
    have lt := I.lt
    rw [← e] at lt
    exact Nat.lt_irrefl _ (Nat.lt_of_lt_of_le lt hf)) fun e => I.nofs hf e
  have noloc : ∀ f, s.heap.objs.size ≤ f → f ≠ X.env.locals := fun f hf z => Nat.lt_irrefl _ (Nat.lt_of_lt_of_le I.lt (by rw [← z]; exact hf))
  cases hc : codeAmong pos pss.toList with
  | none =>
    refine PySem.W.kla_makeFunction (mg := X.mg) (c := c) (P := (G.C j)) (ps := pss) (closure_ok hfree) I.ok.glob (I.mod.glob.keeps I.bk) hcode (TB.code.keeps I.bk) gP ht hc TB.gP bP fun c' ctv h' tk hx hge hlt ⟨c2, oc, vs, t, e2, hoc, hd, hv⟩ htb => ?_
    cases e2
    have nC : H c' = none := I.hok.fresh hge
    have hsz : s.heap.objs.size ≤ h'.objs.size := Nat.le_trans hge (Nat.le_of_lt hlt)
    have I1 := inv_table (t' := tk) (more := #[rawInt pos.line, rawInt pos.col, .ref c']) (h' := h'.push (PySem.W.kla_obj "<lambda>" (X.env.qual ++ "<lambda>") params body scope (cloFrom X.env.cells scope.names []) ((X.mg "__name__").getD .none) c' ctv)) I hP0 (fun b o hb e => Heap.get?_push_of_some _ (hx b o hb e)) (Heap.get?_push_of_some _ htb) hge ⟨oc, vs, t, Heap.get?_push_of_some _ hoc, hd, hv⟩
    obtain ⟨E1, x1⟩ := E.table (pos := pos) (more := #[rawInt pos.line, rawInt pos.col, .ref c']) hn el hP0 ht hk nC (by simp)
    refine k h'.objs.size c' ((X.mg "__name__").getD .none) ctv _ _ I1 x1 E1 (Heap.get?_push_size _ rfl) ?_ (nofr _ hsz) (noloc _ hsz) upd_same
    rw [upd2_ne (Nat.ne_of_gt (Nat.lt_of_lt_of_le (Heap.lt_size gP) hsz)) (Nat.ne_of_gt hlt)]
    exact I.hok.fresh hsz
  | some cv =>
    obtain ⟨c', e, hco⟩ := hk pos cv hc
    subst e
    refine PySem.W.kla_makeFunctionHit (mg := X.mg) (c := c) (P := (G.C j)) (ps := pss) (closure_ok hfree) I.ok.glob (I.mod.glob.keeps I.bk) hcode (TB.code.keeps I.bk) gP ht hc bP fun ctv h' tk hx hsz => ?_
    exact k h'.objs.size c' ((X.mg "__name__").getD .none) ctv H _ (I.kept fun b o e => Heap.get?_push_of_some _ (hx b o e)) Ext.refl E (Heap.get?_push_size _ rfl) (I.hok.fresh hsz) (nofr _ hsz) (noloc _ hsz) hco
end
end Tw

/-! lambdas as values: cells `.lm` -/
namespace Tw
open PySem PySem.Spec PyProof.Rows L2 HotX L2H
open LamX (CodeO TabB inv_table codeO_ne among_app run_ofS)
@[simp] def isTb (h : VH) (n j : Nat) (q : Str) : Bool := match h[n]? with
  | some (.tb j' q') => decide (j' = j) && decide (q' = q)
  | _ => false
theorem isTb_get {h : VH} {n j : Nat} {q : Str} (e : isTb h n j q = true) : h[n]? = some (.tb j q) := by
  unfold isTb at e
  split at e
  · rename_i j' q' z
    rw [Bool.and_eq_true, decide_eq_true_eq, decide_eq_true_eq] at e
    rw [z, e.1, e.2]
  · cases e
theorem outer_stack {X : Cx} (ok : X.Ok) {b : Addr} (h : b ∈ X.fs) : b ∈ frs X.stack := by
  rcases ok.stk with e | ⟨e, _⟩
  · rw [e]; exact h
  · rw [e]
    unfold frs
    rw [List.filterMap_cons]
    split
    · exact h
    · exact List.mem_cons_of_mem _ h
/-- a new cell of any kind -/
theorem Emb.allocC {G : Gm} {io : List (List Addr)} {h : VH} {H : Hp} (E : Emb G io h H) {p : Addr} {o : HO} {c : Cell} (np : H p = none) (r : CellR G (adr (io ++ [[p]])) (upd H p o) [p] c) : Emb G (io ++ [[p]]) (h ++ [c]) (upd H p o) ∧ Ext io H (io ++ [[p]]) (upd H p o) := by
  have k : ∀ a u, H a = some u → upd H p o a = some u := fun a u e => by rw [upd_ne (ne_of_none e np)]; exact e
  refine ⟨⟨by simp [E.len], ?_, fun n c e => ?_⟩, ⟨fun _ _ e => adr_app e, fun a m => ?_, fun a u e _ => k a u e, fun a e => ?_, Stay.none np⟩⟩
  · rw [List.flatten_append, List.nodup_append]
    refine ⟨E.nd, by simp, fun a ha b hb => ?_⟩
    simp at hb
    subst hb
    intro z
    subst z
    exact E.fresh np ha
  · by_cases q : n < h.length
    · rw [List.getElem?_append_left q] at e
      obtain ⟨l, e1, r⟩ := E.at_ n c e
      refine ⟨l, by rw [List.getElem?_append_left (by rw [E.len]; exact q)]; exact e1, r.mono (fun _ _ z => adr_app z) (Stay.none np) fun a _ u z => k a u z⟩
    · have hn : n = h.length := by
        have := (List.getElem?_eq_some_iff.mp e).1
        simp at this
        omega
      subst hn
      rw [List.getElem?_append_right (Nat.le_refl _)] at e
      simp at e
      subst e
      refine ⟨[p], ?_, r⟩
      rw [← E.len, List.getElem?_append_right (Nat.le_refl _)]
      simp
  · rw [List.flatten_append, List.mem_append] at m
    rcases m with m | m
    · exact .inl m
    · simp at m; subst m; exact .inr np
  · by_cases q : a = p
    · subst q; exact np
    · rw [upd_ne q] at e; exact e
theorem fnO_ok {P : Program} {w : World} {H : Hp} {h : Heap} {f c' cc : Addr} {r : LamRec} {pm ctv : Value} (e : h.get? f = some (PySem.W.kla_obj "<lambda>" r.qual r.params r.body r.scope (cloOf r cc) pm c' ctv)) : ObjOk P w H h f (FnO f r cc pm c' ctv) :=
  ⟨e, ⟨_, e⟩, fun h1 h2 z st => st _ z⟩
section
variable {G : Gm} {X : Cx} {pins : List (Addr × Obj)} {σ : L2.St} {H : Hp} {s : Shared} {io : List (List Addr)} {h : VH}
theorem lam_mkC {c : Addr} {n j : Nat} {r : LamRec} {pos : Pos} {E' : Value → Shared → Prop} {Q : Value → Shared → Prop} (I : Inv X pins σ H s) (TB : TabB X.base X.mg c (G.C j)) (hcode : X.env.code = .ref c) (E : Emb G io h H) (hn : h[n]? = some (.tb j r.qual)) (hq : X.env.qual ++ "<lambda>" = r.qual)
    (hdef : defaultsOf r.params X.env = ([], [])) (hfree : ∀ y ∈ r.scope.names, y.2 = .free → ∃ c, X.env.cells.lookup y.1 = some c) (hclo : cloFrom X.env.cells r.scope.names [] = cloOf r G.cc)
    (k : ∀ (f c' : Addr) (pm ctv : Value) (H1 : Hp) (s' : Shared), Ext io H io H1 → Emb G io h H1 → H1 f = none → Inv X pins σ (upd H1 f (FnO f r G.cc pm c' ctv)) s' → H1 c' = some (CodeO c' r.qual) → Q (.ref f) s') :
    wpAny (model X.prog X.w) X.A (eval (.Lambda r.params r.body r.scope pos) X.env) Q E' s := by
  obtain ⟨l, el, pss, rfl, hP0, ht, hk⟩ := E.at_ n _ hn
  refine PySem.W.kla_eval hdef ?_
  have bP : s.heap.BuiltinsAt X.mg (G.C j) := TB.bm.keeps I.bk
  have gP : s.heap.get? (G.C j) = some { cls := .none, data := .fields pss } := I.hok (G.C j) _ hP0
  rw [hq]
  cases hc : codeAmong pos pss.toList with
  | none =>
    refine PySem.W.kla_makeFunction (mg := X.mg) (c := c) (P := (G.C j)) (ps := pss) (closure_ok hfree) I.ok.glob (I.mod.glob.keeps I.bk) hcode (TB.code.keeps I.bk) gP ht hc TB.gP bP fun c' ctv h' tk hx hge hlt ⟨c2, oc, vs, t, e2, hoc, hd, hv⟩ htb => ?_
    cases e2
    have nC : H c' = none := I.hok.fresh hge
    have hsz : s.heap.objs.size ≤ h'.objs.size := Nat.le_trans hge (Nat.le_of_lt hlt)
    have I1 := inv_table (t' := tk) (more := #[rawInt pos.line, rawInt pos.col, .ref c']) (h' := h') I hP0 (fun b o hb e => hx b o hb e) htb hge ⟨oc, vs, t, hoc, hd, hv⟩
    obtain ⟨E1, x1⟩ := E.table (pos := pos) (more := #[rawInt pos.line, rawInt pos.col, .ref c']) hn el hP0 ht hk nC (by simp)
    rw [hclo]
    have go : (h'.push (PySem.W.kla_obj "<lambda>" r.qual r.params r.body r.scope (cloOf r G.cc) ((X.mg "__name__").getD .none) c' ctv)).get? h'.objs.size = some _ := Heap.get?_push_size _ rfl
    refine k h'.objs.size c' ((X.mg "__name__").getD .none) ctv _ _ x1 E1 (I1.hok.fresh (Nat.le_refl _)) (I1.laid (a := h'.objs.size) (t' := tk) (fun b u e => Heap.get?_push_of_some _ e) (Nat.le_refl _) (fnO_ok go)) upd_same
  | some cv =>
    obtain ⟨c', e, hco⟩ := hk pos cv hc
    subst e
    refine PySem.W.kla_makeFunctionHit (mg := X.mg) (c := c) (P := (G.C j)) (ps := pss) (closure_ok hfree) I.ok.glob (I.mod.glob.keeps I.bk) hcode (TB.code.keeps I.bk) gP ht hc bP fun ctv h' tk hx hsz => ?_
    rw [hclo]
    have go : (h'.push (PySem.W.kla_obj "<lambda>" r.qual r.params r.body r.scope (cloOf r G.cc) ((X.mg "__name__").getD .none) c' ctv)).get? h'.objs.size = some _ := Heap.get?_push_size _ rfl
    have I1 : Inv X pins σ H { s with heap := h', toks := tk } := I.kept fun b o e => hx b o e
    exact k h'.objs.size c' ((X.mg "__name__").getD .none) ctv H _ Ext.refl E (I1.hok.fresh (Nat.le_refl _)) (I1.laid (a := h'.objs.size) (t' := tk) (fun b u e => Heap.get?_push_of_some _ e) (Nat.le_refl _) (fnO_ok go)) hco
end
/-- the value of a lambda's captured name -/
@[simp] def capW (kc : Option Nat) (fm : Fm) : Option W := match kc with
  | none => some .non
  | some k => (fm[k]?).join
@[simp] def fLamM (n j : Nat) (q : Str) (i : Nat) (kc : Option Nat) : FE := fun fm h => if isTb h n j q = true then (match capW kc fm with
  | some w => some (.ok (.ref h.length), h ++ [.lm i w])
  | none => none) else none
section
variable {G : Gm} {X : Cx} {Wx : WX}
theorem se_lam {n j i c : Nat} {r : LamRec} {kc : Option Nat} {params : Arguments} {body : Expr} {scope : Scope} {pos : Pos} (TB : TabB X.base X.mg c (G.C j)) (hcode : X.env.code = .ref c) (hi : G.lm i = some r) (hcv : G.cv = none) (hq : X.env.qual ++ "<lambda>" = r.qual)
    (hpr : r.params = params) (hbo : r.body = body) (hsc : r.scope = scope) (hdef : defaultsOf r.params X.env = ([], [])) (hfree : ∀ y ∈ r.scope.names, y.2 = .free → X.env.scope.names.lookup y.1 = some .cell ∨ X.env.scope.names.lookup y.1 = some .free) (hclo : cloFrom X.env.cells r.scope.names [] = cloOf r G.cc) :
    SE G X Wx (.Lambda params body scope pos) (fLamM n j r.qual i kc) := by
  subst hpr hbo hsc
  refine ⟨fun pins s σ H Q I q => ?_⟩
  obtain ⟨fm, h, rr, h', io, e, E, S, p⟩ := q
  unfold fLamM at e
  split at e
  · rename_i hTb
    split at e
    · rename_i w hw
      cases e
      refine lam_mkC I TB hcode E (isTb_get hTb) hq hdef (fun y hy e => (hfree y hy e).elim (fun k => I.ok.has _ (.inl k)) fun k => I.ok.has _ (.inr k)) hclo fun f c' pm ctv H1 s' x1 E1 nf I1 hc => ?_
      have rw0 : ∃ v0, RW G.K (adr io) H w v0 := by
        unfold capW at hw
        cases kc with
        | none => cases hw; exact ⟨.non, .non⟩
        | some k =>
          have hw' : (fm[k]?).join = some w := hw
          cases z : fm[k]? with
          | none => rw [z] at hw'; cases hw'
          | some y =>
            rw [z] at hw'
            obtain ⟨v, _, rv⟩ := S.2.1 k w (by rw [z]; exact congrArg some hw')
            exact ⟨v, rv⟩
      obtain ⟨v0, rv0⟩ := rw0
      have ncf : c' ≠ f := fun z => by rw [z, nf] at hc; cases hc
      have x2 : Ext io H1 (io ++ [[f]]) (upd H1 f (FnO f r G.cc pm c' ctv)) ∧ Emb G (io ++ [[f]]) (h ++ [.lm i w]) (upd H1 f (FnO f r G.cc pm c' ctv)) := by
        have cr : CellR G (adr (io ++ [[f]])) (upd H1 f (FnO f r G.cc pm c' ctv)) [f] (.lm i w) := ⟨f, r, pm, c', ctv, v0, rfl, hi, upd_same, by rw [upd_ne ncf]; exact hc, (rv0.ext x1).mono (fun _ _ z => adr_app z) (Stay.none nf), fun ov z => by rw [hcv] at z; cases z⟩
        exact ⟨(E1.allocC nf cr).2, (E1.allocC nf cr).1⟩
      refine ⟨.ref f, _, I1, rfl, p _ _ (x1.trans x2.1) x2.2 _ ?_⟩
      refine .ref ?_
      rw [← E.len]
      exact adr_new
    · cases e
  · cases e
end
end Tw

/-! a lambda of a cell is called -/
namespace Tw
open PySem PySem.Spec PyProof.Rows L2 HotX L2H
open LamX (CodeO TabB run_ofS)
structure LamOk (r : LamRec) : Prop where
  kind : r.scope.kind = .function
  co : r.scope.isCoroutine = false
  gen : r.scope.isGenerator = false
  par : ∀ x ∈ r.prm, r.scope.names.lookup x = some .local
  cel : ∀ y ∈ r.scope.names, y.2 ≠ .cell
  free : ∀ y ∈ r.scope.names, y.2 = .free → r.cap = some y.1
  capf : ∀ y, r.cap = some y → r.scope.names.lookup y = some .free
  nov : r.cap = none → r.scope.names.lookup ("" : Str) = none
def lamOkB (r : LamRec) : Bool :=
  decide (r.scope.kind = .function) && !r.scope.isCoroutine && !r.scope.isGenerator && (r.prm.all fun x => decide (r.scope.names.lookup x = some .local)) &&
    (r.scope.names.all fun y => !decide (y.2 = .cell) && (!decide (y.2 = .free) || decide (r.cap = some y.1))) && (match r.cap with
      | some y => decide (r.scope.names.lookup y = some .free)
      | none => decide (r.scope.names.lookup ("" : Str) = none))
theorem lamOk_by {r : LamRec} (h : lamOkB r = true) : LamOk r := by
  unfold lamOkB at h
  simp only [Bool.and_eq_true, Bool.or_eq_true, Bool.not_eq_true', decide_eq_true_eq, decide_eq_false_iff_not, List.all_eq_true] at h
  obtain ⟨⟨⟨⟨⟨h1, h2⟩, h3⟩, h4⟩, h5⟩, h6⟩ := h
  refine ⟨h1, h2, h3, h4, fun y hy => (h5 y hy).1, fun y hy e => (h5 y hy).2.elim (fun z => absurd e z) id, fun y e => ?_, fun e => ?_⟩
  · rw [e] at h6
    exact of_decide_eq_true h6
  · rw [e] at h6
    exact of_decide_eq_true h6
abbrev envL (r : LamRec) (cc L f c' : Addr) : Env := PySem.W.envX r.qual r.scope L f (.ref c') (cloOf r cc)
def lamN (r : LamRec) : List Str := r.cap.getD "" :: r.prm
/-- the context of its body -/
def lamB (P : Program) (w : World) (K : PySem.W.Frag) (mg : Str → Option Value) (base : Heap) (N : List Str) (A : Around) (outer : List Env) (s : Shared) (H : Hp) (E : XK) (r : LamRec) (cc f c' : Addr) : Cx where
  prog := P
  w := w
  K := K
  mg := mg
  base := base
  A := A.deeper (envL r cc s.heap.objs.size f c')
  N := N
  s_0 := s
  H_0 := H
  env := envL r cc s.heap.objs.size f c'
  outer := outer
  stack := envL r cc s.heap.objs.size f c' :: outer
  ex := []
  fn := fun _ => false
  calm := true
  pn := []
  xe := fun e s' => wpAny (model P w) (A.deeper (envL r cc s.heap.objs.size f c')) (leaving (envL r cc s.heap.objs.size f c') e) (fun _ s'' => L2N.CX P w outer H s E e s'') (fun e' s'' => L2N.CX P w outer H s E e' s'') s'
theorem clo_look {r : LamRec} {cc c : Addr} {y : Str} (e : (cloOf r cc).lookup y = some c) : r.cap = some y ∧ c = cc := by
  unfold cloOf at e
  split at e
  · rename_i z hz
    rw [List.lookup_cons] at e
    split at e
    · rename_i q
      cases e
      exact ⟨by rw [hz, beq_iff_eq.mp q], rfl⟩
    · cases e
  · cases e
theorem clo_has {r : LamRec} {cc : Addr} {y : Str} (e : r.cap = some y) : (cloOf r cc).lookup y = some cc := by
  unfold cloOf
  rw [e]
  simp
section
variable {P : Program} {w : World} {K : PySem.W.Frag} {mg : Str → Option Value} {base : Heap} {HZ : Hp} {s1 : Shared}
theorem lamB_start {A : Around} {outer : List Env} {E : XK} {r : LamRec} {cc f c' : Addr} {h1 : Heap} {tk : Nat} {v0 : V} {vs : List V} {us : List Value} (L : LamOk r) (e0 : Env0 P w K mg base A outer s1 HZ) (hd : A.handled = none)
    (hl1 : r.prm.length ≤ 1) (hlen : vs.length = r.prm.length) (hns : h1.Ns s1.heap.objs.size fun y => (r.prm.zip us).reverse.lookup y) (kp : ∀ b o, s1.heap.get? b = some o → h1.get? b = some o) (rv : Vals vs us) (hc : r.cap ≠ none → ∃ u, base.IsCell cc (some u) ∧ RelV v0 u) :
    Inv (lamB P w K mg base (lamN r) A outer s1 HZ E r cc f c') [] (some v0 :: vs.map some) HZ { s1 with heap := h1, toks := tk } := by
  have noA : ∀ b : Addr, b ∉ (lamB P w K mg base (lamN r) A outer s1 HZ E r cc f c').ex := fun b z => by cases (show b ∈ ([] : List Addr) from z)
  have cellC : ∀ {u : Option Value}, base.IsCell cc u → h1.IsCell cc u ∧ HZ cc = none := fun {u} ⟨o, ho, hd⟩ => ⟨⟨o, kp _ _ (e0.bs _ _ ho).1, hd⟩, (e0.bs _ _ ho).2⟩
  refine ⟨⟨e0.mod, L.kind, rfl, rfl, Nat.le_refl _, fun y z c e1 e2 => ?_, fun y hy => ?_, fun y c z _ => Bool.noConfusion (show false = true from z), fun _ => hd, Around.frames_deeper e0.frames, .inr ⟨rfl, rfl⟩, fun b z => absurd z (noA b), e0.bs, e0.bsz, fun b _ _ => noA b, fun b z => absurd z (noA b), e0.funs, e0.frf⟩,
    rfl, e0.bare, Un.kept kp, ⟨_, hns, fun i y v' e1 e2 e3 => ?_⟩, fun y c e => ?_, e0.hok.fresh (Nat.le_refl _), fun y c e => ?_, (fun q hq => by cases (show q ∈ ([] : List (Addr × Obj)) ++ [] from hq)), e0.hok.kept kp, ?_⟩
  · have a1 := (clo_look e1).1
    have a2 := (clo_look e2).1
    rw [a1] at a2
    exact Option.some.inj a2
  · have hy : r.scope.names.lookup y = some .cell ∨ r.scope.names.lookup y = some .free := hy
    rcases hy with hy | hy
    · exact absurd rfl (L.cel _ (PySem.mem_of_lookup hy))
    · exact ⟨cc, clo_has (L.free _ (PySem.mem_of_lookup hy) rfl)⟩
  · have e1 : (lamN r)[i]? = some y := e1
    have e3 : Vis r.scope y := e3
    cases i with
    | zero =>
      have e1' : r.cap.getD "" = y := by simpa [lamN] using e1
      have e2' : v0 = v' := by simpa using e2
      subst e2'
      cases hcap : r.cap with
      | none =>
        rw [hcap] at e1'
        have nn := L.nov hcap
        have ey : y = "" := by simpa using e1'.symm
        subst ey
        rcases e3 with k | k | k <;> rw [nn] at k <;> cases k
      | some z =>
        rw [hcap] at e1'
        have ey : y = z := by simpa using e1'.symm
        subst ey
        obtain ⟨u, hu, ru⟩ := hc (by rw [hcap]; simp)
        exact ⟨u, ru, .inr ⟨.inr (L.capf _ hcap), cc, clo_has hcap, (cellC hu).1⟩⟩
    | succ i =>
      have e1' : r.prm[i]? = some y := by simpa [lamN] using e1
      have e2' : (vs.map some)[i]? = some (some v') := by simpa using e2
      have hi : i = 0 := by have := (List.getElem?_eq_some_iff.mp e1').1; omega
      subst hi
      match hp : r.prm, hlen, e1' with
      | [x], hlen, e1' =>
        match vs, rv, hlen, e2' with
        | [v], .cons r1 .nil, _, e2' =>
          have ex : x = y := by simpa using e1'
          have ev : v = v' := by simpa using e2'
          subst ex ev
          exact ⟨_, r1, .inl ⟨L.par x (by rw [hp]; simp), by simp [hp]⟩⟩
      | [], _, e1' => simp at e1'
      | _ :: _ :: _, _, _ => rw [hp] at hl1; simp at hl1
  · have e := clo_look e
    obtain ⟨u, hu, _⟩ := hc (by rw [e.1]; simp)
    rw [e.2]
    exact ⟨_, (cellC hu).1⟩
  · have e := clo_look e
    obtain ⟨u, hu, _⟩ := hc (by rw [e.1]; simp)
    rw [e.2]
    exact (cellC hu).2
  · show (some v0 :: vs.map some).length = (lamN r).length
    simp [lamN, hlen]
end
/-- what is known of the captured cell -/
def LamCell (base : Heap) (cc : Addr) (cv : Option (Option V)) : Prop := ∃ ov, cv = some ov ∧ ∀ v, ov = some v → ∃ u, base.IsCell cc (some u) ∧ RelV v u
/-- the lambdas' bodies -/
def LamsOk (G : Gm) (P : Program) (w : World) (K : PySem.W.Frag) (mg : Str → Option Value) (base : Heap) (k : Nat) (ar : Nat → Nat) (fbs : Nat → FE) : Prop := ∀ (j : Nat) (r : LamRec), G.lm j = some r → LamOk r ∧ r.prm.length = ar j ∧ r.prm.length ≤ 1 ∧
  (∀ (cl : List (Str × Addr)) (pm cv ctv : Value) (us : List Value), us.length = r.prm.length → bindArgs (PySem.W.kla_fn "<lambda>" r.qual r.params r.body r.scope cl pm cv ctv) ⟨us, []⟩ = pure (r.prm.zip us)) ∧
  ∀ (A : Around) (outer : List Env) (s : Shared) (H : Hp) (E : XK) (f c' : Addr), Room k (A.deeper (envL r G.cc s.heap.objs.size f c')) → L2N.Takes (lamB P w K mg base (lamN r) A outer s H E r G.cc f c') (fun cls d _ H1 => E cls d H1) →
    SE G (lamB P w K mg base (lamN r) A outer s H E r G.cc f c') (fun cls d _ H1 => E cls d H1) r.body (fbs j)
@[simp] def lmAt (h : VH) (w : Option (Option W)) : Option (Nat × W) := match w with
  | some (some (.ref m)) => (match h[m]? with
    | some (.lm i w) => some (i, w)
    | _ => none)
  | _ => none
@[simp] def fLcall1 (ar : Nat → Nat) (fbs : Nat → FE) (i i2 : Nat) : FE := fun fm h => match lmAt h fm[i]? with
  | some (j, w) => if ar j = 1 then (match fm[i2]? with
    | some (some w2) => fbs j [some w, some w2] h
    | _ => none) else none
  | none => none
@[simp] def fLcall0 (ar : Nat → Nat) (fbs : Nat → FE) (i : Nat) : FE := fun fm h => match lmAt h fm[i]? with
  | some (j, w) => if ar j = 0 then fbs j [some w] h else none
  | none => none
theorem lmAt_r {h : VH} {ow : Option (Option W)} {i : Nat} {w : W} (e : lmAt h ow = some (i, w)) : ∃ m, ow = some (some (.ref m)) ∧ h[m]? = some (.lm i w) := by
  unfold lmAt at e
  split at e
  · rename_i m
    split at e
    · rename_i i' w' z
      cases e
      exact ⟨m, rfl, z⟩
    · cases e
  · cases e
section
variable {G : Gm} {X : Cx} {Wx : WX} {k : Nat} {ar : Nat → Nat} {fbs : Nat → FE}
/-- the call itself, the arguments at hand -/
theorem lcall {pins : List (Addr × Obj)} {σ : L2.St} {H : Hp} {s : Shared} {Q : VK} {f : Addr} {j : Nat} {w : W} {ws : List W} {vs : List V} {us : List Value} {io : List (List Addr)} {h : VH} {m : Nat} {R : Rs W} {h' : VH}
    (I : Inv X pins σ H s) (hK : X.K = G.K) (np : G.pin = none) (tk : L2N.Takes X Wx) (LC : LamCell X.base G.cc G.cv) (LO : LamsOk G X.prog X.w X.K X.mg X.base k ar fbs) (hr : Room (k + 1) X.A)
    (E : Emb G io h H) (hm : h[m]? = some (.lm j w)) (rf : RW G.K (adr io) H (.ref m) (.ref f)) (rvs : RWs G.K (adr io) H ws vs) (ru : Vals vs us) (hl : us.length = ar j) (e : fbs j (some w :: ws.map some) h = some (R, h')) (p : Post G Wx (RW G.K) io H σ R h' Q) :
    wpAny (model X.prog X.w) X.A (call (.ref f) us) (EP X pins σ Q) X.xe s := by
  obtain ⟨l, el, f', r, pm, c', ctv, v0, rfl, hj, hf, hc, rv0, hcap⟩ := E.at_ m _ hm
  have ef : f' = f := by
    cases rf with
    | ref z =>
      unfold adr at z
      rw [el] at z
      exact Option.some.inj z
  subst ef
  obtain ⟨L, har, h1l, hbind, hbody⟩ := LO j r hj
  obtain ⟨hfo, _, _⟩ := I.hok _ _ hf
  obtain ⟨⟨oc, ocs, tt, hoc, hdc, hvc⟩, _, _⟩ := I.hok c' _ hc
  obtain ⟨ov, hov, hcell⟩ := LC
  obtain ⟨v0, rv0, hcap⟩ : ∃ v0, RW G.K (adr io) H w v0 ∧ (r.cap ≠ none → ov = some v0) := by
    by_cases nc : r.cap = none
    · exact ⟨v0, rv0, fun z => absurd nc z⟩
    · obtain ⟨v, a, b⟩ := hcap ov hov nc
      exact ⟨v, b, fun _ => a⟩
  have rc : codeAny (model X.prog X.w) X.A (.call (.ref f') ⟨us, []⟩) (CR (L2N.CX X.prog X.w) X.stack X.prog X.w H s Q (WE Wx σ)) s := by
    refine PySem.W.kla_callFunE hr.depth hfo rfl L.co L.gen rfl ⟨c', oc, ocs, tt, rfl, hoc, hdc, hvc⟩ ?_
    rw [hbind _ _ _ _ us (hl.trans har.symm)]
    refine wpAny_pure (wpAny_newFunctionEnv L.cel (fun y hy => L.par _ (List.of_mem_zip hy).1) (fun h1 hns hsb => ⟨I.nolimit.fresh _ hsb, ?_⟩) L.kind)
    change codeAny _ _ (.expr r.body (envL r G.cc s.heap.objs.size f' c')) _ _
    have kp : ∀ b o, s.heap.get? b = some o → h1.get? b = some o := fun b o e => hsb.extBut b o (Nat.ne_of_lt (Heap.lt_size e)) (Heap.get?_push_of_some _ e)
    have J : Inv (lamB X.prog X.w X.K X.mg X.base (lamN r) X.A X.stack s H (WE Wx σ) r G.cc f' c') [] (some v0 :: vs.map some) H { s with heap := h1, toks := s.toks + (r.prm.zip us).length } :=
      lamB_start L I.env0 hr.hd h1l (by rw [ru.length, hl, har]) hns kp ru fun nc => hcell v0 (hcap nc)
    have S0 : RSt G (adr io) H (some w :: ws.map some) (some v0 :: vs.map some) := by
      refine ⟨by simp [rvs.length], fun i y z => ?_, fun i a z => by rw [np] at z; cases z⟩
      cases i with
      | zero => cases z; exact ⟨v0, rfl, rv0⟩
      | succ i =>
        have z' : (ws.map some)[i]? = some (some y) := by simpa using z
        rw [List.getElem?_map] at z'
        cases q : ws[i]? with
        | none => rw [q] at z'; cases z'
        | some y' =>
          rw [q] at z'
          cases z'
          obtain ⟨v, hv, rv⟩ := rvs.get q
          exact ⟨v, by simp [hv], rv⟩
    refine PySem.W.kla_codeExpr (wpAny_mono ((hbody X.A X.stack s H (WE Wx σ) f' c' (hr.deeper _) (L2N.takes_of rfl rfl rfl rfl)).run [] _ _ H Q J ⟨_, h, R, h', io, e, E, S0, p⟩) (fun v' s' ⟨w', H', J', rv, q⟩ => ⟨w', H', J'.os, J'.bare, J'.base, J'.hok, rv, q⟩) fun e s' hq => hq)
  have hx := L2N.passAt tk σ
  refine wpAny_call (codeAny_mono rc fun r s' hq => ?_)
  cases r with
  | error e => exact hx pins H s e s' I hq
  | ok fl =>
    cases fl with
    | ret u => exact I.after hq
    | next => exact False.elim hq
    | brk => exact False.elim hq
    | cont => exact False.elim hq
/-- ask(thing) -/
theorem se_lcall1 (i i2 : Nat) {a t : Str} {p1 p2 p3 : Pos} (hK : X.K = G.K) (np : G.pin = none) (tk : L2N.Takes X Wx) (LC : LamCell X.base G.cc G.cv) (LO : LamsOk G X.prog X.w X.K X.mg X.base k ar fbs) (hr : Room (k + 1) X.A)
    (hN : X.N[i]? = some a) (hv : Vis X.env.scope a) (hN2 : X.N[i2]? = some t) (hv2 : Vis X.env.scope t) (hd : (a == ("__debug__" : Str)) = false := by decide) (hcd : (a == ("__classdict__" : Str)) = false := by decide) (hd2 : (t == ("__debug__" : Str)) = false := by decide) (hcd2 : (t == ("__classdict__" : Str)) = false := by decide) :
    SE G X Wx (.Call (.Name a p1) [.Name t p3] [] p2) (fLcall1 ar fbs i i2) := by
  refine ⟨fun pins s σ H Q I q => ?_⟩
  obtain ⟨fm, h, R, h', io, e, E, S, p⟩ := q
  unfold fLcall1 at e
  split at e
  · rename_i j w hj
    split at e
    · rename_i har
      split at e
      · rename_i w2 h2
        obtain ⟨m, em, hm⟩ := lmAt_r hj
        obtain ⟨vf, hvf, rf⟩ := S.2.1 i _ em
        obtain ⟨v2, hv2', r2⟩ := S.2.1 i2 _ h2
        obtain ⟨f, rfl⟩ : ∃ f, vf = .ref f := by cases rf with | ref z => exact ⟨_, rfl⟩
        obtain ⟨l, el, f', r, pm, c', ctv, v0, rfl, hj', hf, hc, rv0, hcap⟩ := E.at_ m _ hm
        have ef : f' = f := by
          cases rf with
          | ref z =>
            unfold adr at z
            rw [el] at z
            exact Option.some.inj z
        subst ef
        have fn : ∀ {t : Shared}, Inv X pins σ H t → ∃ cl fd dd sl, t.heap.get? f' = some ⟨cl, dd, .func fd, sl⟩ := fun J => by
          obtain ⟨z, _, _⟩ := J.hok _ _ hf
          exact ⟨_, _, _, _, z⟩
        refine wpAny_Call_Name_kw (thn ((pe_var (pos := p1) (i := i) hN hv hd hcd).run pins s σ H (fun v H1 => v = .ref f' ∧ H1 = H) I ⟨.ref f', hvf, rfl, rfl⟩) fun u0 s0 ⟨v1, H0, I0, r0, q0⟩ => ?_)
        obtain ⟨ev, eH⟩ := q0
        subst ev
        rw [eH] at I0
        obtain rfl : u0 = Value.ref f' := r0
        obtain ⟨z0, _, _⟩ := I0.hok _ _ hf
        refine PySem.W.callWith_F ⟨_, _, _, _, z0⟩ ?_ (by rfl) (by rfl)
        change wpAny _ _ (spliced ((false, eval (.Name t p3) _) :: backTo p2 (starEach [] _))) _ _ s0
        refine Calls.spliced_cons (thn ((pe_var (pos := p3) (i := i2) hN2 hv2 hd2 hcd2).run pins s0 σ H (fun v' H1 => v' = v2 ∧ H1 = H) I0 ⟨v2, hv2', rfl, rfl⟩) fun u s1 ⟨v3, H1, I1, r1, q1⟩ => ?_)
        obtain ⟨ev, eH⟩ := q1
        subst ev
        rw [eH] at I1
        obtain ⟨z1, _, _⟩ := I1.hok _ _ hf
        refine Calls.spliced_nil ⟨⟨_, _, _, _, z1⟩, ?_⟩
        exact lcall (ws := [w2]) (vs := [v3]) (us := [u]) I1 hK np tk LC LO hr E hm rf (.cons r2 .nil) (.cons r1 .nil) har.symm e p
      · cases e
    · cases e
  · cases e
/-- ask() -/
theorem se_lcall0 (i : Nat) {a : Str} {p1 p2 : Pos} (hK : X.K = G.K) (np : G.pin = none) (tk : L2N.Takes X Wx) (LC : LamCell X.base G.cc G.cv) (LO : LamsOk G X.prog X.w X.K X.mg X.base k ar fbs) (hr : Room (k + 1) X.A)
    (hN : X.N[i]? = some a) (hv : Vis X.env.scope a) (hd : (a == ("__debug__" : Str)) = false := by decide) (hcd : (a == ("__classdict__" : Str)) = false := by decide) :
    SE G X Wx (.Call (.Name a p1) [] [] p2) (fLcall0 ar fbs i) := by
  refine ⟨fun pins s σ H Q I q => ?_⟩
  obtain ⟨fm, h, R, h', io, e, E, S, p⟩ := q
  unfold fLcall0 at e
  split at e
  · rename_i j w hj
    split at e
    · rename_i har
      obtain ⟨m, em, hm⟩ := lmAt_r hj
      obtain ⟨vf, hvf, rf⟩ := S.2.1 i _ em
      obtain ⟨f, rfl⟩ : ∃ f, vf = .ref f := by cases rf with | ref z => exact ⟨_, rfl⟩
      obtain ⟨l, el, f', r, pm, c', ctv, v0, rfl, hj', hf, hc, rv0, hcap⟩ := E.at_ m _ hm
      have ef : f' = f := by
        cases rf with
        | ref z =>
          unfold adr at z
          rw [el] at z
          exact Option.some.inj z
      subst ef
      refine wpAny_Call_Name_kw (thn ((pe_var (pos := p1) (i := i) hN hv hd hcd).run pins s σ H (fun v H1 => v = .ref f' ∧ H1 = H) I ⟨.ref f', hvf, rfl, rfl⟩) fun u0 s0 ⟨v1, H0, I0, r0, q0⟩ => ?_)
      obtain ⟨ev, eH⟩ := q0
      subst ev
      rw [eH] at I0
      obtain rfl : u0 = Value.ref f' := r0
      obtain ⟨z0, _, _⟩ := I0.hok _ _ hf
      refine PySem.W.callWith_F0 ⟨_, _, _, _, z0⟩ ?_
      exact lcall (ws := []) (vs := []) (us := []) I0 hK np tk LC LO hr E hm rf .nil .nil har.symm e p
    · cases e
  · cases e
end
end Tw

namespace Tw
open PySem PySem.Spec PyProof.Rows L2 HotX L2H
section
variable {X : Cx} {tg : Expr}
theorem range_itZ {ps : List (Addr × Obj)} {σ : L2.St} {H : Hp} {s : Shared} {R : It → Hp → Prop} {E : Value → Shared → Prop} {lo hi : Int} {t u v : Tok} {tk : Nat} (I : Inv X ps σ H s) (b : (-(2 ^ 62) ≤ lo ∧ lo < 2 ^ 62) ∧ -(2 ^ 62) ≤ hi ∧ hi < 2 ^ 62) (q : R (Itr lo (hi - lo).toNat) H) :
    wpAny (model X.prog X.w) X.A (pyIter (.ref s.heap.objs.size)) (PIEZ X ps σ tg R) E { s with heap := s.heap.push { cls := .type "range", data := .fields #[.int lo t, .int hi u, .int 1 v] }, toks := tk } := by
  refine wpAny_pyIter_range (IsRange.new ..) (small_one b.1.1 b.1.2 b.2.1 b.2.2) ?_
  generalize hs1 : ({ s with heap := s.heap.push { cls := .type "range", data := .fields #[.int lo t, .int hi u, .int 1 v] }, toks := tk } : Shared) = s1
  have J : Inv X ps σ H s1 := by rw [← hs1]; exact I.kept fun b o e => Heap.get?_push_of_some _ e
  have e1 : lo + ((0 : Nat) : Int) * 1 = lo := by simp
  have e2 : (((hi - lo).toNat : Nat) : Int) - ((0 : Nat) : Int) = Builtin.Range.rangeSize lo hi 1 := by rw [rangeSize_one]; split <;> omega
  refine ⟨_, _, _, _, H, rfl, J.kept (t' := s1.toks) fun b o e => Heap.get?_push_of_some _ e, turnZ_rng _ lo (hi - lo).toNat, ?_, new_fp J, q⟩
  change IsRangeIter _ _ (lo + ((0 : Nat) : Int) * 1) ((((hi - lo).toNat : Nat) : Int) - ((0 : Nat) : Int)) 1
  rw [e1, e2]
  exact Heap.get?_push_size _ rfl
theorem piz_range1 {a : Expr} {ta : TA} {p pos : Pos} (hg : Gl X "range") (hm : X.mg "range" = none) (ha : PA X [a] ta) (hs : starEach [a] X.env = [(false, eval a X.env)] := by rfl) : PIZ X tg (.Call (.Name "range" p) [a] [] pos) (iRng1 ta) := ⟨fun ps s σ H R I h => Call_ (ld_blt I hg hm boot_range (PyProof.Rows.callWith_type1 (thn (ha.run pos ps s σ H _ I h) fun us s1 ⟨vs, H1, I1, r1, j, e, q1, q2, q⟩ => by
  subst e
  cases r1 with
  | cons r rr =>
    cases rr
    obtain ⟨t, rfl⟩ := r
    exact call_range_1 (range_itZ I1 ⟨⟨by omega, by omega⟩, q1, q2⟩ (by simpa using q))) hs rfl))⟩
end
section
variable {G : Gm} {X : Cx} {Wx : WX} {tg a : Expr} {fa : FE} {p pos : Pos}
theorem siz_range1 (hg : Gl X "range") (hm : X.mg "range" = none) (ha : SE G X Wx a fa) (hs : starEach [a] X.env = [(false, eval a X.env)] := by rfl) (hs0 : starEach [a] X.env = (false, eval a X.env) :: starEach [] X.env := by rfl) : SIZ G X Wx tg (.Call (.Name "range" p) [a] [] pos) (fIr1 fa) := by
  refine PIZw (piz_range1 hg hm (pa_cons ha pa_nil hs0) hs) fun s H R q => ?_
  obtain ⟨fm, h, r, h', io, e, E, S, p⟩ := q
  refine cG_step E S e p fun a h1 e1 io1 H1 v x1 E1 rv => ?_
  split at e1
  · split at e1
    · rename_i hc
      cases e1; cases rv
      exact ⟨_, rfl, hc.1, hc.2, p io1 H1 x1 E1 _ rfl⟩
    · cases e1
  · cases e1
end
theorem bb_ValueError : bootBuiltins "ValueError" = some (.type "ValueError") := by decide +kernel
/-! a def whose code object is known -/
section
variable {G : Gm} {P : Program} {w : World} {K : PySem.W.Frag} {mg : Str → Option Value} {base : Heap}
theorem fnV_ofC {x qual : Str} {st : Stmt} {f c : Addr} {fd : FuncData} {N ps : List Str} {k : Nat} {fb : FSt} (np : G.pin = none) (F : Fun K x qual st f fd) (S : FnScope N ps (defScope st)) (hc : fd.code = .ref c)
    (hbody : ∀ (A : Around) (outer : List Env) (s : Shared) (H : Hp) (E : XK), Room k (A.deeper (envOfC qual (defScope st) s.heap.objs.size f (.ref c))) →
      L2N.Takes (cxOf (L2N.CX P w) P w K mg base N qual (defScope st) f (.ref c) A outer s H E) (fun cls d _ H1 => E cls d H1) →
      PassesOwn (model P w) (cxOf (L2N.CX P w) P w K mg base N qual (defScope st) f (.ref c) A outer s H E).A (cxOf (L2N.CX P w) P w K mg base N qual (defScope st) f (.ref c) A outer s H E).env (cxOf (L2N.CX P w) P w K mg base N qual (defScope st) f (.ref c) A outer s H E).xe →
      SSs G (cxOf (L2N.CX P w) P w K mg base N qual (defScope st) f (.ref c) A outer s H E) (fun cls d _ H1 => E cls d H1) (defBody st) fb) :
    FnV G P w K mg base (k + 1) f fd ps (runB N.length ps.length fb) := by
  obtain ⟨oc, od, kV, doc, pm, an, cdv, ct, osl, rfl, lk, hcd⟩ := F.ex
  obtain rfl : cdv = .ref c := hc
  refine fn_of lk hcd S (fun vs H Q E h => ?_) (fun A outer s H vs Q E hr h => ?_)
  · obtain ⟨ws, h, r, h', io, e, E, R, p⟩ := h
    unfold runB at e
    split at e
    · rename_i hl
      rw [← R.length]; exact hl
    · cases e
  · refine ⟨_, hbody A outer s H E hr (L2N.takes_of rfl rfl rfl rfl) (passes_of rfl), ?_⟩
    obtain ⟨ws, h, r, h', io, e, E, R, p⟩ := h
    unfold runB at e
    split at e
    · split at e
      · rename_i fm1 h1 e1
        cases e
        exact ⟨_, h, _, _, _, io, e1, E, start_rel np R, fun io' H' sr' x' E' S' => p io' H' x' E' _ .non⟩
      · rename_i w1 fm1 h1 e1
        cases e
        exact ⟨_, h, _, _, _, io, e1, E, start_rel np R, fun io' H' sr' x' E' S' => p io' H' x' E'⟩
      · rename_i c1 fm1 h1 e1
        cases e
        exact ⟨_, h, _, _, _, io, e1, E, start_rel np R, fun io' H' sr' x' E' S' => p io' H' x' E'⟩
      · cases e
    · cases e
end
end Tw
namespace Tw
open PySem PySem.Spec PyProof.Rows L2
@[simp] def fUpper (f : FE) : FE := fun fm h => bindM (f fm h) fun w h1 => match w with
  | .str a => if a.length ≤ 5592405 then some (.ok (.str (Txt.upper a)), h1) else none
  | _ => none
theorem se_upper {G : Gm} {X : Cx} {Wx : WX} {o : Expr} {f : FE} {apos cpos : Pos} (ho : SE G X Wx o f) (hbase : attributeBase o "upper" X.env (eval o X.env) = eval o X.env := by rfl) (hline : (apos.endLine == cpos.line) = true := by rfl) : SE G X Wx (.Call (.Attribute o "upper" apos) [] [] cpos) (fUpper f) := by
  refine PEw (pe_bm0 PySem.F.plainAttrs_str PySem.F.slot_str_upper PySem.F.type_str_upper mt_upper ho hbase hline) fun s H Q q => ?_
  obtain ⟨fm, h, r, h', io, e, E, S, p⟩ := q
  refine cG_step E S e p fun a h1 e1 io1 H1 v x1 E1 rv => ?_
  split at e1
  · split at e1
    · rename_i hl
      cases e1; cases rv
      refine ⟨?_, _, rfl, rfl, hl, p io1 H1 x1 E1 _ (.str _)⟩
      first | exact ⟨_, rfl⟩ | trivial | rfl
    · cases e1
  · cases e1
def suiteOf (st : Stmt) : List Stmt := match defBody st with
  | [.Try _ [.ExceptHandler _ _ s _] _ _ _, _] => s
  | _ => []
end Tw
namespace Tw
open PySem PySem.Spec PyProof.Rows L2
def lamQ (x : Str) : Str := (envOfC x default 0 0 .none).qual ++ "<lambda>"
end Tw
namespace Tw
open PySem in
theorem free1 {G : Gm} {i j : Nat} {a : PySem.Addr} (h : i ≠ j) : ∀ v ∈ [j], (G.hold i a).Free v := fun v hv b z => by
  have e : v = j := List.mem_singleton.mp hv
  have z' : some (i, a) = some (v, b) := z
  have q : i = v := congrArg Prod.fst (Option.some.inj z')
  exact h (q.trans e)
end Tw

/-! the maker of lambdas; a call that hands them on -/
namespace Tw
open PySem PySem.Spec PyProof.Rows L2 HotX L2H
open LamX (CodeO TabB run_ofS)
abbrev Gm.at_ (G : Gm) (cc : Addr) (cv : Option (Option V)) : Gm := { G with cc := cc, cv := cv }
def sameI : List W → List W → Bool
  | [], [] => true
  | .int a :: xs, .int b :: ys => decide (a = b) && sameI xs ys
  | _, _ => false
def sameW : W → W → Bool
  | .ref n, .ref m => decide (n = m)
  | .tup xs, .tup ys => sameI xs ys
  | _, _ => false
theorem sameI_eq : ∀ {xs ys : List W}, sameI xs ys = true → xs = ys
  | [], [], _ => rfl
  | .int a :: xs, .int b :: ys, h => by
    simp [sameI] at h
    rw [h.1, sameI_eq h.2]
  | [], _ :: _, h => by simp [sameI] at h
  | .non :: _, [], h | .bl _ :: _, [], h | .int _ :: _, [], h | .str _ :: _, [], h | .tup _ :: _, [], h | .rl _ :: _, [], h | .ref _ :: _, [], h => by simp [sameI] at h
  | .int a :: xs, .non :: _, h | .int a :: xs, .bl _ :: _, h | .int a :: xs, .str _ :: _, h | .int a :: xs, .tup _ :: _, h | .int a :: xs, .rl _ :: _, h | .int a :: xs, .ref _ :: _, h => by simp [sameI] at h
  | .non :: _, _ :: _, h | .bl _ :: _, _ :: _, h | .str _ :: _, _ :: _, h | .tup _ :: _, _ :: _, h | .rl _ :: _, _ :: _, h | .ref _ :: _, _ :: _, h => by simp [sameI] at h
theorem sameW_eq {a b : W} (h : sameW a b = true) : a = b := by
  unfold sameW at h
  split at h
  · rw [of_decide_eq_true h]
  · rw [sameI_eq h]
  · cases h
@[simp] def fgC : Cell → Cell
  | .lm _ _ => .gone
  | c => c
@[simp] def forget (h : VH) : VH := h.map fgC
@[simp] def kpC (caps : Nat → Bool) (ow : Option W) : Cell → Cell
  | .lm i w => if caps i = true then (match ow with
    | some w' => if sameW w w' = true then .lm i w else .gone
    | none => .gone) else .lm i w
  | c => c
theorem Emb.conv {G G' : Gm} {io : List (List Addr)} {h : VH} {H : Hp} (E : Emb G io h H) (φ : Cell → Cell) (hφ : ∀ l c, CellR G (adr io) H l c → CellR G' (adr io) H l (φ c)) : Emb G' io (h.map φ) H := by
  refine ⟨by rw [List.length_map]; exact E.len, E.nd, fun n c e => ?_⟩
  rw [List.getElem?_map] at e
  cases q : h[n]? with
  | none => rw [q] at e; cases e
  | some c0 =>
    rw [q] at e
    cases e
    obtain ⟨l, e1, r⟩ := E.at_ n c0 q
    exact ⟨l, e1, hφ l c0 r⟩
theorem fg_cell {G : Gm} {cc : Addr} {cv : Option (Option V)} {ad : Nat → Option Addr} {H : Hp} {l : List Addr} {c : Cell} (r : CellR G ad H l c) : CellR (G.at_ cc cv) ad H l (fgC c) := by
  cases c with
  | lm i w => exact fun a ha => r.there ha
  | pl o => exact r
  | tk T => exact r
  | hd T => exact r
  | fz xs => exact r
  | tb j q => exact r
  | gone => exact r
theorem gf_cell {G : Gm} {cc : Addr} {cv : Option (Option V)} {ad : Nat → Option Addr} {H : Hp} {l : List Addr} {c : Cell} (r : CellR (G.at_ cc cv) ad H l c) : CellR G ad H l (fgC c) := by
  cases c with
  | lm i w => exact fun a ha => r.there ha
  | pl o => exact r
  | tk T => exact r
  | hd T => exact r
  | fz xs => exact r
  | tb j q => exact r
  | gone => exact r
def runL (n m : Nat) (fb : FSt) : Fn := fun ws h => match runB n m fb ws (forget h) with
  | some (r, h') => some (r, forget h')
  | none => none
section
variable {G : Gm} {P : Program} {w : World} {K : PySem.W.Frag} {mg : Str → Option Value} {base : Heap}
theorem fnV_ofL {x qual : Str} {st : Stmt} {f c : Addr} {fd : FuncData} {N ps : List Str} {k : Nat} {fb : FSt} (cc : Shared → Addr) (np : G.pin = none) (F : Fun K x qual st f fd) (S : FnScope N ps (defScope st)) (hc : fd.code = .ref c)
    (hbody : ∀ (A : Around) (outer : List Env) (s : Shared) (H : Hp) (E : XK), Room k (A.deeper (envOfC qual (defScope st) s.heap.objs.size f (.ref c))) →
      L2N.Takes (cxOf (L2N.CX P w) P w K mg base N qual (defScope st) f (.ref c) A outer s H E) (fun cls d _ H1 => E cls d H1) →
      PassesOwn (model P w) (cxOf (L2N.CX P w) P w K mg base N qual (defScope st) f (.ref c) A outer s H E).A (cxOf (L2N.CX P w) P w K mg base N qual (defScope st) f (.ref c) A outer s H E).env (cxOf (L2N.CX P w) P w K mg base N qual (defScope st) f (.ref c) A outer s H E).xe →
      SSs (G.at_ (cc s) none) (cxOf (L2N.CX P w) P w K mg base N qual (defScope st) f (.ref c) A outer s H E) (fun cls d _ H1 => E cls d H1) (defBody st) fb) :
    FnV G P w K mg base (k + 1) f fd ps (runL N.length ps.length fb) := by
  obtain ⟨oc, od, kV, doc, pm, an, cdv, ct, osl, rfl, lk, hcd⟩ := F.ex
  obtain rfl : cdv = .ref c := hc
  refine fn_of lk hcd S (fun vs H Q E h => ?_) (fun A outer s H vs Q E hr h => ?_)
  · obtain ⟨ws, h, r, h', io, e, E, R, p⟩ := h
    unfold runL at e
    split at e
    · rename_i r1 h1 e1
      unfold runB at e1
      split at e1
      · rename_i hl
        rw [← R.length]; exact hl
      · cases e1
    · cases e
  · refine ⟨_, hbody A outer s H E hr (L2N.takes_of rfl rfl rfl rfl) (passes_of rfl), ?_⟩
    obtain ⟨ws, h, r, h', io, e, E, R, p⟩ := h
    unfold runL at e
    split at e
    · rename_i r1 h1 e1
      cases e
      have E0 : Emb (G.at_ (cc s) none) io (forget h) H := E.conv fgC fun l c r => fg_cell r
      have back : ∀ {io' H' hh}, Emb (G.at_ (cc s) none) io' hh H' → Emb G io' (forget hh) H' := fun E' => E'.conv fgC fun l c r => gf_cell r
      unfold runB at e1
      split at e1
      · split at e1
        · rename_i fm1 h1 e1'
          cases e1
          exact ⟨_, forget h, _, _, _, io, e1', E0, start_rel np R, fun io' H' sr' x' E' S' => p io' H' x' (back E') _ .non⟩
        · rename_i w1 fm1 h1 e1'
          cases e1
          exact ⟨_, forget h, _, _, _, io, e1', E0, start_rel np R, fun io' H' sr' x' E' S' => p io' H' x' (back E')⟩
        · rename_i c1 fm1 h1 e1'
          cases e1
          exact ⟨_, forget h, _, _, _, io, e1', E0, start_rel np R, fun io' H' sr' x' E' S' => p io' H' x' (back E')⟩
        · cases e1
      · cases e1
    · cases e
end
/-- all of the base, and the captured cell -/
def baseC (base h : Heap) (cc : Addr) : Heap := hidT h fun b => if (base.get? b).isSome = true ∨ b = cc then none else some (.tbl #[])
section
variable {G : Gm} {X : Cx} {Wx : WX} {k : Nat} {f : Addr} {fd : FuncData} {ps : List Str} {F : Fn} {x y : Str} {p pos : Pos} {e : Expr} {es : List Expr} {fs : List FE}
theorem funFr {h base base' : Heap} : ∀ {l : List Env}, h.FunFrames base l → (∀ b ∈ frs l, base'.get? b = none) → h.FunFrames base' l
  | [], _, _ => trivial
  | env :: rest, ⟨hk, ⟨L, o, hf, hn, ho, hd⟩, hr⟩, hb => by
    refine ⟨hk, ⟨L, o, hf, hb L ?_, ho, hd⟩, funFr hr fun b hb' => hb b ?_⟩
    · unfold frs
      rw [List.filterMap_cons, hf]
      exact List.mem_cons_self
    · unfold frs at hb' ⊢
      rw [List.filterMap_cons, hf]
      exact List.mem_cons_of_mem _ hb'
theorem env_cell {pins : List (Addr × Obj)} {σ : L2.St} {H : Hp} {s : Shared} (I : Inv X pins σ H s) {cc : Addr} (hcl : X.env.cells.lookup y = some cc) (hfn : X.fn y = true) : Env0 X.prog X.w X.K X.mg (baseC X.base s.heap cc) X.A X.stack s H ∧ ∀ v, s.heap.IsCell cc v → (baseC X.base s.heap cc).IsCell cc v := by
  have e0 := I.env0
  have sub : ∀ b o, X.base.get? b = some o → (baseC X.base s.heap cc).get? b = some o := fun b o e => hidT_get (e0.bs b o e).1 (if_pos (.inl (by rw [e]; rfl)))
  have inv : ∀ b o, (baseC X.base s.heap cc).get? b = some o → s.heap.get? b = some o ∧ (X.base.get? b = some o ∨ b = cc) := fun b o e => by
    obtain ⟨e1, e2⟩ := of_hidT e
    refine ⟨e1, ?_⟩
    split at e2
    · rename_i hh
      rcases hh with z | z
      · cases q : X.base.get? b with
        | none => rw [q] at z; cases z
        | some o2 =>
          have := (e0.bs b o2 q).1
          rw [e1] at this
          exact .inl this.symm
      · exact .inr z
    · cases e2
  obtain ⟨v0, o0, ho0, hd0⟩ := I.cell y cc hcl
  refine ⟨⟨e0.frames, ⟨e0.mod.kin.keeps sub, e0.mod.glob.keeps sub, let ⟨mb, a, b⟩ := e0.mod.blt; ⟨mb, a.keeps sub, b⟩, e0.mod.nolimit.keeps sub⟩, fun b o e => ?_, Nat.le_of_eq (hidT_size _ _), funFr e0.funs fun b hb => ?_, e0.frf, e0.hok, e0.bare⟩, fun v ⟨o, ho, hd⟩ => ⟨o, hidT_get ho (if_pos (.inr rfl)), hd⟩⟩
  · obtain ⟨e1, e2 | e2⟩ := inv b o e
    · exact e0.bs b o e2
    · exact ⟨e1, by rw [e2]; exact I.freeC y cc hcl⟩
  · cases q : (baseC X.base s.heap cc).get? b with
    | none => rfl
    | some o =>
      obtain ⟨e1, e2 | e2⟩ := inv b o q
      · have := (e0.funs.mem hb).1
        rw [e2] at this
        cases this
      · exfalso
        subst e2
        rcases List.mem_cons.mp (I.stkSub _ hb) with z | z
        · obtain ⟨m, ⟨ob, es, ep, eo, ed, _⟩, _⟩ := I.loc
          rw [← z, ho0] at eo
          cases eo
          rw [hd0] at ed
          cases ed
        · have lt : b < X.s_0.heap.objs.size := by
            obtain ⟨_, o2, h2, _⟩ := I.ok.funs.mem z
            exact Heap.lt_size h2
          exact Nat.lt_irrefl _ (Nat.lt_of_lt_of_le lt (I.ok.cab y b hfn hcl))
theorem kp_cell {caps : Nat → Bool} {w : W} {v : V} {ad : Nat → Option Addr} {H : Hp} {l : List Addr} {c : Cell} (hcaps : ∀ i r, G.lm i = some r → caps i = r.cap.isSome) (rv : RW G.K ad H w v) (r : CellR G ad H l c) : CellR (G.at_ G.cc (some (some v))) ad H l (kpC caps (some w) c) := by
  cases c with
  | lm i w' =>
    obtain ⟨f, rr, pm, c', ctv, v0, e, e1, e2, e3, q, kk⟩ := r
    by_cases h1 : caps i = true
    · by_cases hs : sameW w' w = true
      · have e0 : kpC caps (some w) (.lm i w') = .lm i w' := by simp [h1, hs]
        rw [e0]
        have ew := sameW_eq hs
        subst ew
        exact ⟨f, rr, pm, c', ctv, v0, e, e1, e2, e3, q, fun ov z _ => ⟨v, by cases z; rfl, rv⟩⟩
      · have e0 : kpC caps (some w) (.lm i w') = .gone := by simp [h1, hs]
        rw [e0]
        subst e
        exact fun a ha => ⟨FnO f rr G.cc pm c' ctv, by rw [List.mem_singleton.mp ha]; exact e2⟩
    · have e0 : kpC caps (some w) (.lm i w') = .lm i w' := by simp [h1]
      rw [e0]
      refine ⟨f, rr, pm, c', ctv, v0, e, e1, e2, e3, q, fun ov z nc => ?_⟩
      exfalso
      rw [hcaps i rr e1] at h1
      exact nc (by cases z : rr.cap with | none => rfl | some y => rw [z] at h1; exact absurd rfl h1)
  | pl o => exact r
  | tk T => exact r
  | hd T => exact r
  | fz xs => exact r
  | tb j q => exact r
  | gone => exact r
theorem kpN_cell {caps : Nat → Bool} {ad : Nat → Option Addr} {H : Hp} {l : List Addr} {c : Cell} (hcaps : ∀ i r, G.lm i = some r → caps i = r.cap.isSome) (r : CellR G ad H l c) : CellR (G.at_ G.cc (some none)) ad H l (kpC caps none c) := by
  cases c with
  | lm i w' =>
    obtain ⟨f, rr, pm, c', ctv, v0, e, e1, e2, e3, q, kk⟩ := r
    by_cases h1 : caps i = true
    · have e0 : kpC caps none (.lm i w') = .gone := by simp [h1]
      rw [e0]
      subst e
      exact fun a ha => ⟨FnO f rr G.cc pm c' ctv, by rw [List.mem_singleton.mp ha]; exact e2⟩
    · have e0 : kpC caps none (.lm i w') = .lm i w' := by simp [h1]
      rw [e0]
      refine ⟨f, rr, pm, c', ctv, v0, e, e1, e2, e3, q, fun ov z nc => ?_⟩
      exfalso
      rw [hcaps i rr e1] at h1
      exact nc (by cases z : rr.cap with | none => rfl | some y => rw [z] at h1; exact absurd rfl h1)
  | pl o => exact r
  | tk T => exact r
  | hd T => exact r
  | fz xs => exact r
  | tb j q => exact r
  | gone => exact r
theorem bk_cell {cv : Option (Option V)} {ad : Nat → Option Addr} {H : Hp} {l : List Addr} {c : Cell} (hG : G.cv = none) (r : CellR (G.at_ G.cc cv) ad H l c) : CellR G ad H l c := by
  cases c with
  | lm i w' =>
    obtain ⟨f, rr, pm, c', ctv, v0, e, e1, e2, e3, q, kk⟩ := r
    exact ⟨f, rr, pm, c', ctv, v0, e, e1, e2, e3, q, fun ov z => by rw [hG] at z; cases z⟩
  | pl o => exact r
  | tk T => exact r
  | hd T => exact r
  | fz xs => exact r
  | tb j q => exact r
  | gone => exact r
theorem bk_emb {cv : Option (Option V)} {io : List (List Addr)} {h : VH} {H : Hp} (hG : G.cv = none) (E : Emb (G.at_ G.cc cv) io h H) : Emb G io h H := ⟨E.len, E.nd, fun n c e => let ⟨l, a, b⟩ := E.at_ n c e; ⟨l, a, bk_cell hG b⟩⟩
@[simp] def fCallB (caps : Nat → Bool) (kc : Nat) (F : Fn) (fs : List FE) : FE := fun fm h => bindM (fAll fs fm h) fun ws h1 => match fm[kc]? with
  | some (some w) => F ws (h1.map (kpC caps (some w)))
  | _ => none
@[simp] def fCallN (caps : Nat → Bool) (F : Fn) (fs : List FE) : FE := fun fm h => bindM (fAll fs fm h) fun ws h1 => F ws (h1.map (kpC caps none))
theorem se_callN {caps : Nat → Bool} (hG : G.cv = none) (Fn : FnV (G.at_ G.cc (some none)) X.prog X.w X.K X.mg X.base k f fd ps F) (hcaps : ∀ i r, G.lm i = some r → caps i = r.cap.isSome) (hr : Room k X.A) (hg : Gl X x) (hm : X.mg x = some (.ref f)) (hk : PySem.W.keepIn X.K (.ref f) = true) (hb : Binds X.K fd ps []) (tk : L2N.Takes X Wx)
    (ha : SA G X Wx (e :: es) (fAll fs)) (hdb : (x == ("__debug__" : Str)) = false := by decide) (he : starEach (e :: es) X.env = (false, eval e X.env) :: starEach es X.env := by rfl) (hpl : (backTo pos (starEach es X.env)).any (·.1) = false := by rfl) :
    SE G X Wx (.Call (.Name x p) (e :: es) [] pos) (fCallN caps F fs) := PEw (pe_callS Fn hr hg hm hk hb (fun s => L2N.passAt tk s) ha hdb he hpl) fun s H Q q => by
  obtain ⟨fm, h, r, h', io, e, E, S, p⟩ := q
  refine cG_step E S e p fun a h1 e1 io1 H1 v x1 E1 rv => ?_
  exact ⟨a, _, r, h', io1, e1, E1.conv _ fun l c r => kpN_cell hcaps r, rv, fun io' H' x' E' => p io' H' (x1.trans x') (bk_emb hG E')⟩
theorem se_callB {caps : Nat → Bool} (kc : Nat) (hG : G.cv = none) (Fn : ∀ (base' : Heap) (v : V), LamCell base' G.cc (some (some v)) → FnV (G.at_ G.cc (some (some v))) X.prog X.w X.K X.mg base' k f fd ps F) (hcaps : ∀ i r, G.lm i = some r → caps i = r.cap.isSome)
    (hcl : X.env.cells.lookup y = some G.cc) (hkd : X.env.scope.names.lookup y = some .cell) (hfn : X.fn y = true) (hN : X.N[kc]? = some y) (hr : Room k X.A) (hg : Gl X x) (hm : X.mg x = some (.ref f)) (hk : PySem.W.keepIn X.K (.ref f) = true) (hb : Binds X.K fd ps []) (tk : L2N.Takes X Wx)
    (ha : SA G X Wx (e :: es) (fAll fs)) (hdb : (x == ("__debug__" : Str)) = false := by decide) (he : starEach (e :: es) X.env = (false, eval e X.env) :: starEach es X.env := by rfl) (hpl : (backTo pos (starEach es X.env)).any (·.1) = false := by rfl) :
    SE G X Wx (.Call (.Name x p) (e :: es) [] pos) (fCallB caps kc F fs) := by
  refine ⟨fun pins s σ H Q I q => ?_⟩
  obtain ⟨fm, h, r, h', io, e, E, S, p⟩ := q
  refine wpAny_Call_Name_kw (ld_glob I hg hm ?_ hdb)
  refine PySem.W.callWith_K (h₀ := X.base) I.ok.mod.kin hk (thn (ha.run pos pins s σ H (fun vs H1 => ∃ io1 h1 ws w v, Ext io H io1 H1 ∧ Emb G io1 h1 H1 ∧ RWs G.K (adr io1) H1 ws vs ∧ fm[kc]? = some (some w) ∧ σ[kc]? = some (some v) ∧ RW G.K (adr io1) H1 w v ∧ F ws (h1.map (kpC caps (some w))) = some (r, h')) I ?_) fun us s2 ⟨vs, H2, I2, rvs, io1, h1, ws, w, v, x1, E1, rws, efm, esr, rwv, eF⟩ => ⟨I2.kIn, ?_⟩) he hpl
  · refine cG_step E S e p fun a h1 e1 io1 H1 v x1 E1 rv => ?_
    split at e1
    · rename_i w hw
      obtain ⟨v0, hv0, rv0⟩ := S.2.1 kc w hw
      exact ⟨io1, h1, a, w, v0, x1, E1, rv, hw, hv0, rv0.ext x1, e1⟩
    · cases e1
  · obtain ⟨m, hns, hl⟩ := I2.loc
    obtain ⟨u, ru, lk⟩ := hl kc y v hN esr (.inr (.inl hkd))
    have hcellS : s2.heap.IsCell G.cc (some u) := by
      rcases lk with ⟨z, _⟩ | ⟨_, c, hc, z⟩
      · have z' : X.env.scope.names.lookup y = some .local := z
        rw [hkd] at z'
        cases z'
      · rw [hcl] at hc
        cases hc
        exact z
    obtain ⟨e0, hcell⟩ := env_cell I2 hcl hfn
    have FF := Fn (baseC X.base s2.heap G.cc) v ⟨some v, rfl, fun v' z => by cases z; exact ⟨u, hcell _ hcellS, ru⟩⟩
    have sp : spF (G.at_ G.cc (some (some v))) F vs H2 Q (WE Wx σ) := ⟨ws, _, r, h', io1, eF, E1.conv _ fun l c r => kp_cell hcaps rwv r, rws, fun io' H' x' E' => p io' H' (x1.trans x') (bk_emb hG E')⟩
    have hl2 : us.length = ps.length := by rw [← rvs.length]; exact FF.len _ _ _ _ sp
    have b := hb s2 us I2.kIn (by rw [List.append_nil]; exact hl2)
    rw [List.append_nil] at b
    refine wpAny_call (codeAny_mono (FF.run X.A X.stack s2 H2 ⟨us, []⟩ us vs Q (WE Wx σ) hr e0 b rvs sp) fun r s' hq => ?_)
    cases r with
    | error e => exact L2N.passAt tk σ pins H2 s2 e s' I2 hq
    | ok fl =>
      cases fl with
      | ret u => exact I2.after hq
      | next => exact False.elim hq
      | brk => exact False.elim hq
      | cont => exact False.elim hq
end
end Tw

/-! list.index and list.count of truths -/
namespace Tw
open PySem PySem.Spec PyProof.Rows L2
def blsOf : List W → Option (List Bool)
  | [] => some []
  | .bl b :: xs => match blsOf xs with
    | some bs => some (b :: bs)
    | none => none
  | _ => none
theorem blsOf_eq : ∀ {xs : List W} {bs : List Bool}, blsOf xs = some bs → xs = bs.map W.bl
  | [], bs, h => by cases h; rfl
  | .bl b :: xs, bs, h => by
    unfold blsOf at h
    split at h
    · rename_i bs' e
      cases h
      rw [blsOf_eq e]
      rfl
    · cases h
  | .non :: _, _, h | .int _ :: _, _, h | .str _ :: _, _, h | .tup _ :: _, _, h | .rl _ :: _, _, h | .ref _ :: _, _, h => by simp [blsOf] at h
section
variable {X : Cx}
def rCntF (K : PySem.W.Frag) : V → List V → Hp → VK → Prop := fun x xs H Q => ∃ (a : Addr) (ys : List V) (y : V), x = V.ref a ∧ xs = [y] ∧ SqL K H a ys ∧ flatV y = true ∧ ys.all flatV = true ∧ Q (.int (ys.countP (fun z => eqV z y) : Nat)) H
theorem count_rel {y : V} : ∀ {ys : List V} {us : List Value}, Vals ys us → ys.all flatV = true → us.countP (eqU y) = ys.countP (fun z => eqV z y)
  | _, _, .nil, _ => rfl
  | v :: vs, u :: us, .cons r t, f => by
    rw [List.all_cons, Bool.and_eq_true] at f
    rw [List.countP_cons, List.countP_cons, count_rel t f.2, eqU_of r f.1]
theorem mt_countF : MtR X "list.count" (rCntF X.K) := by
  intro pins s σ H x xs v us Q I rx rxs h
  obtain ⟨a, ys, y, rfl, rfl, hs, fy, fys, q⟩ := h
  cases rx
  cases rxs with
  | cons ry rt =>
    rename_i uy ut
    cases rt
    obtain ⟨its, rv, ⟨⟨cls, dd, data, sl⟩, n, ho, hc, hdn, hd⟩, hlen⟩ := I.list hs
    simp only at hc hd
    subst hc hd
    refine call_meets PySem.F.slot_list_count ⟨_, ho, rfl⟩ PySem.F.entry_list_count (PySem.F.args_list_count_2 _ _)
      (SeqAt.list_countAt a its.toArray n dd sl uy (eqU y)) ⟨ho, fun u' hu' => mem_eqAt ry fy rv fys u' (by simpa using hu'), ?_⟩
    refine ⟨.int (ys.countP (fun z => eqV z y) : Nat), H, I.tok _, ⟨s.toks, ?_⟩, q⟩
    show Value.int ((its.toArray.toList.countP (eqU y) : Nat) : Int) s.toks = _
    rw [show its.toArray.toList = its from rfl, count_rel rv fys]
end
@[simp] def gIdxB : GM := fun a ws h => match ws, lstAt h a with
  | [.bl b], some xs => (match blsOf xs with
    | some bs => if bs.idxOf b < bs.length then some (.int (bs.idxOf b : Nat), h) else none
    | none => none)
  | _, _ => none
@[simp] def gCntB : GM := fun a ws h => match ws, lstAt h a with
  | [.bl b], some xs => (match blsOf xs with
    | some bs => some (.int (bs.countP (· == b) : Nat), h)
    | none => none)
  | _, _ => none
theorem all_bl (bs : List Bool) : (bs.map V.bl).all flatV = true := by induction bs with | nil => rfl | cons b t ih => simp [ih, flatV]
theorem sim_cntB {G : Gm} : SimM G (rCntF G.K) gCntB := by
  intro a ws h w h' e io H x vs Q E ra rs p
  unfold gCntB at e
  split at e
  · rename_i b xs e1
    split at e
    · rename_i bs eb
      cases e
      have hx := blsOf_eq eb
      subst hx
      obtain ⟨c, us, rfl, hv, rvs⟩ := lstAt_r E e1 ra
      have hu := rvs.bls
      subst hu
      cases rs with
      | cons r1 rt =>
        cases rt
        cases r1
        refine ⟨c, _, .bl b, rfl, rfl, hv, rfl, all_bl bs, ?_⟩
        have ec : (bs.map V.bl).countP (fun z => eqV z (.bl b)) = bs.countP (· == b) := by
          rw [List.countP_map]
          congr 1
        rw [ec]
        exact p.here E (.int _)
    · cases e
  · cases e
theorem sim_idxB {G : Gm} : SimM G (rIndex G.K) gIdxB := by
  intro a ws h w h' e io H x vs Q E ra rs p
  unfold gIdxB at e
  split at e
  · rename_i b xs e1
    split at e
    · rename_i bs eb
      split at e
      · rename_i hlt
        cases e
        have hx := blsOf_eq eb
        subst hx
        obtain ⟨c, us, rfl, hv, rvs⟩ := lstAt_r E e1 ra
        have hu := rvs.bls
        subst hu
        cases rs with
        | cons r1 rt =>
          cases rt
          cases r1
          refine ⟨c, _, .bl b, bs.idxOf b, .bl b, rfl, rfl, hv, rfl, all_bl bs, ?_, ?_, fun m z' hm hz => ?_, p.here E (.int _)⟩
          · rw [List.getElem?_map, List.getElem?_eq_getElem hlt, List.getElem_idxOf]
            rfl
          · show (b == b) = true
            simp
          · rw [List.getElem?_map] at hz
            have hml : m < bs.length := by omega
            rw [List.getElem?_eq_getElem hml] at hz
            cases hz
            show (bs[m] == b) = false
            have := List.not_of_lt_findIdx (p := fun x => x == b) (xs := bs) (i := m) hm
            simpa using this
      · cases e
    · cases e
  · cases e
end Tw

/-! the lambdas of a text by their places; the end where several defs make lambdas -/
namespace Tw
open PySem PySem.Spec PyProof.Rows L2
def nE0 : Expr := .Name "" ⟨0, 0, 0, 0⟩
def nS0 : Stmt := .Pass ⟨0, 0, 0, 0⟩
def kidE : Expr → Nat → Expr
  | .BoolOp _ vs _, n => vs.getD n nE0
  | .BinOp l _ _ _, 0 => l
  | .BinOp _ _ r _, _ + 1 => r
  | .UnaryOp _ e _, _ => e
  | .Compare l _ _ _, 0 => l
  | .Compare _ _ cs _, n + 1 => cs.getD n nE0
  | .Call f _ _ _, 0 => f
  | .Call _ as _ _, n + 1 => as.getD n nE0
  | .List es _, n => es.getD n nE0
  | .Tuple es _ _, n => es.getD n nE0
  | _, _ => nE0
def exS : Stmt → Expr
  | .Return (some e) _ => e
  | .Assign _ e _ => e
  | .If t _ _ _ => t
  | .Expr e _ => e
  | .For _ i _ _ _ => i
  | _ => nE0
def kidS : Stmt → Nat → Stmt
  | .For _ _ b _ _, n => b.getD n nS0
  | .If _ b _ _, n => b.getD n nS0
  | _, _ => nS0
def lamRec (e : Expr) (q : Str) (cap : Option Str) (prm : List Str) : LamRec := match e with
  | .Lambda a b s _ => ⟨a, b, s, q, cap, prm⟩
  | e => ⟨default, e, default, q, cap, prm⟩
/-- where the captured cell lies -/
def ccOf (y : Str) (st : Stmt) (s : Shared) : Addr := ((cellsFrom (s.heap.objs.size + 1) (defScope st).names []).lookup y).getD 0
def freeIn (sc scope : Scope) : Bool := scope.names.all fun y => !decide (y.2 = .free) || decide (sc.names.lookup y.1 = some .cell) || decide (sc.names.lookup y.1 = some .free)
theorem freeIn_by {sc scope : Scope} (h : freeIn sc scope = true) : ∀ y ∈ scope.names, y.2 = .free → sc.names.lookup y.1 = some .cell ∨ sc.names.lookup y.1 = some .free := fun y hy e => by
  unfold freeIn at h
  have := List.all_eq_true.mp h y hy
  simp only [Bool.or_eq_true, Bool.not_eq_true', decide_eq_true_eq, decide_eq_false_iff_not] at this
  rcases this with (z | z) | z
  · exact absurd e z
  · exact .inl z
  · exact .inr z
theorem lamCell_none {base : Heap} {cc : Addr} : LamCell base cc (some none) := ⟨none, rfl, fun v z => by cases z⟩
/-- the tables of all recorded defs are empty at the start -/
def OwnTabs (q : Program) (mg : Str → Option Value) (K : PySem.W.Frag) (h : Heap) : Prop := ∀ (nm : Str) (fa : Addr), ((recsOf q).any fun e => e.name == nm) = true → mg nm = some (.ref fa) → LamX.OwnTab K fa h
theorem walk_ofOwns {l : PySem.W.OpenLaw} {n k : Nat} {q : Program} {loose : List Str} {XP : (Str → Option Value) → Heap → Prop} {YP : World → Heap → Prop} {d : DefRec} {K : Params → PySem.W.Frag} {CX : World → CXT} {x : Str}
    (hn : l.most = some n) (hn2 : n ≤ sizeLine) (hdf : d.params.defaults = []) (hr : Room k callerA) (hY : ∀ (w : World) (h : Heap), YP w h → (K w.params).In h)
    (F : ∀ (w : World) (mg : Str → Option Value) (fa : Addr) (h : Heap), YP w h → (K w.params).In h → h.Ns mainGlobals mg → mg d.name = some (.ref fa) → OwnTabs q mg (K w.params) h → LamX.LawAtS l w (K w.params) (CX w) k n x mg fa h)
    (hCX : ∀ (w : World) (H : Hp) (s : Shared) (e : Value) (s' : Shared), CX w [] H s (fun _ _ _ => False) e s' → False) :
    PySem.W.WalkO q loose XP YP l.row.toRowW d [] (fun f vs => PySem.call f vs) := by
  refine Att.attach_callB hn hdf fun w s₀ s₁ mg mb fa o pm cd doc a vs ns G Y ho hd hcd hmg hobj hints hlen hbits hg => ?_
  have KX := hY w _ Y
  have own : OwnTabs q mg (K w.params) s₁.heap := fun nm fb hrec hmb c P o1 fd1 e dd vs1 sl k1 k2 k3 k4 k5 => by
    obtain ⟨dL, hm, hn1⟩ := List.any_eq_true.mp hrec
    have hn2 : dL.name = nm := beq_iff_eq.mp hn1
    obtain ⟨a', o', fd', c', P', h1, h2, h3, h4, h5, h6⟩ := G.T.tab dL hm
    rw [hn2, hmb] at h1
    cases h1
    have g1 := KX _ _ k1
    rw [g1] at h2
    cases h2
    rw [k2] at h3
    cases h3
    rw [k3] at h4
    cases h4
    obtain ⟨⟨oc, vc, e1, _, e3, e4⟩, hP⟩ := h6
    have g2 := KX _ _ k4
    rw [g2] at e1
    cases e1
    cases e3
    rw [k5] at e4
    cases e4
    exact hP
  obtain ⟨fd, cs, sp, hT, nT, C, hb, hsp, hF⟩ := F w mg fa _ Y KX G.T.g hmg own
  exact LamX.law_callTs KX G.T.g G.T.b G.T.builtins G.T.nolimit hg hT nT C G.T.bmain hobj hints (Nat.le_trans hlen hn2) hr hF hb (fun H hH hS => hsp H a ns hlen hbits hH hS) fun H e s' => hCX w H s₁ e s'
end Tw
namespace Tw
open PySem PySem.Spec PyProof.Rows L2
/-! a def that takes and tells values only and needs the tables alone -/
def sameTbs : List Cell → List Cell → Bool
  | [], _ => true
  | .tb j q :: xs, .tb j' q' :: ys => decide (j = j') && decide (q = q') && sameTbs xs ys
  | _, _ => false
theorem sameTbs_get : ∀ {xs ys : List Cell}, sameTbs xs ys = true → ∀ (i : Nat) (c : Cell), xs[i]? = some c → ∃ j q, c = .tb j q ∧ ys[i]? = some (.tb j q)
  | [], _, _, i, c, e => by simp at e
  | .tb j q :: xs, .tb j' q' :: ys, h, i, c, e => by
    simp only [sameTbs, Bool.and_eq_true, decide_eq_true_eq] at h
    obtain ⟨⟨rfl, rfl⟩, h⟩ := h
    cases i with
    | zero => cases e; exact ⟨j, q, rfl, rfl⟩
    | succ i => exact sameTbs_get h i c (by simpa using e)
  | .tb j q :: xs, [], h, _, _, _ => by simp [sameTbs] at h
  | .tb j q :: xs, .pl _ :: _, h, _, _, _ | .tb j q :: xs, .tk _ :: _, h, _, _, _ | .tb j q :: xs, .hd _ :: _, h, _, _, _ | .tb j q :: xs, .fz _ :: _, h, _, _, _ | .tb j q :: xs, .lm _ _ :: _, h, _, _, _ | .tb j q :: xs, .gone :: _, h, _, _, _ => by simp [sameTbs] at h
  | .pl _ :: _, _, h, _, _, _ | .tk _ :: _, _, h, _, _, _ | .hd _ :: _, _, h, _, _, _ | .fz _ :: _, _, h, _, _, _ | .lm _ _ :: _, _, h, _, _, _ | .gone :: _, _, h, _, _, _ => by simp [sameTbs] at h
def aloneT (m : Nat) (F : Fn) : Fn := fun ws h => if noRsB ws = true then (match F ws (h.take m) with
  | some (.ok w, g) => if noRB w = true ∧ sameTbs (h.take m) g = true then some (.ok w, h) else none
  | _ => none) else none
theorem okAloneT {G : Gm} {P : Program} {w : World} {K : PySem.W.Frag} {mg : Str → Option Value} {base : Heap} {k m : Nat} {f : Addr} {fd : FuncData} {ps : List Str} {F : Fn} (Fn : FnV G P w K mg base k f fd ps F) : FnV G P w K mg base k f fd ps (aloneT m F) := by
  refine FnV.abs Fn fun ws h r h1 e io H E => ?_
  unfold aloneT at e
  split at e
  · rename_i hn
    split at e
    · rename_i w1 g eF
      split at e
      · rename_i hw
        cases e
        have sub : ∀ a, a ∈ (io.take m).flatten → a ∈ io.flatten := fun a ha => by
          rw [← List.take_append_drop m io, List.flatten_append]
          exact List.mem_append_left _ ha
        have E0 : Emb G (io.take m) (h.take m) H := by
          refine ⟨by simp [E.len], ?_, fun i c ei => ?_⟩
          · have := E.nd
            rw [← List.take_append_drop m io, List.flatten_append, List.nodup_append] at this
            exact this.1
          · obtain ⟨j, q, rfl, _⟩ := sameTbs_get hw.2 i c ei
            have hi : i < m := by
              have := (List.getElem?_eq_some_iff.mp ei).1
              simp at this
              omega
            rw [List.getElem?_take_of_lt hi] at ei
            obtain ⟨l, el, r⟩ := E.at_ i _ ei
            refine ⟨l, by rw [List.getElem?_take_of_lt hi]; exact el, ?_⟩
            exact r
        refine ⟨ws, _, _, g, io.take m, eF, E0, fun vs r => (noRsB_ok ws hn).rel r, fun ioc' H' x' E' => ?_⟩
        have keep : ∀ a o, H a = some o → a ∉ (io.take m).flatten → H' a = some o := fun a o e n => x'.keep a o e n
        refine ⟨io, ⟨fun _ _ z => z, fun _ z => .inl z, fun a o e n => keep a o e fun z => n (sub a z), x'.trk, x'.tup⟩, ⟨E.len, E.nd, fun i c ei => ?_⟩, fun v rv => (noRB_ok w1 hw.1).rel rv⟩
        by_cases hi : i < m
        · have ei' : (h.take m)[i]? = some c := by rw [List.getElem?_take_of_lt hi]; exact ei
          obtain ⟨j, q, rfl, eg⟩ := sameTbs_get hw.2 i c ei'
          obtain ⟨l', _, ps, rfl, hp⟩ := E'.at_ i _ eg
          obtain ⟨l, el, ps0, rfl, _⟩ := E.at_ i _ ei
          exact ⟨_, el, ps, rfl, hp⟩
        · obtain ⟨l, el, r⟩ := E.at_ i c ei
          refine ⟨l, el, r.mono (fun _ _ z => z) x'.tup fun a ha u z => keep a u z fun hm => ?_⟩
          obtain ⟨l2, hl2, ha2⟩ := List.mem_flatten.mp hm
          obtain ⟨i2, hi2, rfl⟩ := List.getElem_of_mem hl2
          have h2 : i2 < m := by simp at hi2; omega
          have e2 : io[i2]? = some ((io.take m)[i2]) := by rw [← List.getElem?_take_of_lt h2]; exact List.getElem?_eq_getElem hi2
          exact nodup_flat_ne E.nd e2 el (by omega) ha2 ha
      · cases e
    · cases e
  · cases e
def isTT (tbs : List Cell) : Option (Rs W × VH) → Bool
  | some (.ok (.bl true), g) => sameTbs tbs g
  | _ => false
theorem aloneT_T {m : Nat} {F : Fn} {ws : List W} {tbs : List Cell} (hn : noRsB ws = true) (ht : isTT tbs (F ws tbs) = true) (h : VH) (hm : h.take m = tbs) : aloneT m F ws h = some (.ok (.bl true), h) := by
  unfold isTT at ht
  split at ht
  · rename_i g e
    simp [aloneT, hn, hm, e, noRB, ht]
  · cases ht
end Tw

/-! zip; comprehensions over pairs -/
namespace Tw
open PySem PySem.Spec PyProof.Rows L2
section
variable {G : Gm} {X : Cx} {Wx : WX} {tg l a b e e2 : Expr} {f fa fb : FE} {fs : List FE} {p pos : Pos}
@[simp] def fIz (fs : List FE) : FI := fun fm h => bindM (fAll fs fm h) fun ws h1 => match ws with
  | [u, v] => (match lstAt h1 u, lstAt h1 v with
    | some _, some _ => some (.ok (.zp u v), h1)
    | _, _ => none)
  | _ => none
theorem si_zip {tpos : Pos} {elts : List Expr} {kk : Nat} (hK : X.K = G.K) (hg : Gl X "zip") (hm : X.mg "zip" = none) (ha : SA G X Wx [e, e2] (fAll fs))
    (hs : starEach [e, e2] X.env = (false, eval e X.env) :: starEach [e2] X.env := by rfl) (hpl : (backTo pos (starEach [e2] X.env)).any (·.1) = false := by rfl) :
    SI G X Wx (.Tuple elts kk tpos) (.Call (.Name "zip" p) [e, e2] [] pos) (fIz fs) := by
  refine PIw (pi_zip hg hm ha hs hpl) fun s H R q => ?_
  obtain ⟨fm, h, r, h', io, e, E, S, p⟩ := q
  refine cG_step E S e p fun a h1 e1 io1 H1 v x1 E1 rv => ?_
  split at e1
  · rename_i u w
    split at e1
    · rename_i xs ys ex ey
      cases e1
      cases rv with
      | cons r1 rr =>
        cases rr with
        | cons r2 rr =>
          cases rr
          obtain ⟨a', us, rfl, hu, ru⟩ := lstAt_r E1 ex r1
          obtain ⟨b', vs, rfl, hv, rv⟩ := lstAt_r E1 ey r2
          exact ⟨a', b', us, vs, rfl, by rw [hK]; exact hu, by rw [hK]; exact hv, by rw [hK]; exact p io1 H1 x1 E1 _ ⟨a', b', r1, r2, rfl⟩⟩
    · cases e1
  · cases e1
/-! targets that keep to their slots -/
def SimGW (G : Gm) (vs : List Nat) (g : TG) (gt : GT) : Prop := ∀ w fm fm', gt w fm = some fm' → ∀ io h H sr v Q, Emb G io h H → RSt G (adr io) H fm sr → RW G.K (adr io) H w v → (∀ sr', RSt G (adr io) H fm' sr' → wipe sr' vs = wipe sr vs → Q sr' H) → g v sr H Q
def SimGsW (G : Gm) (vs : List Nat) (g : TGs) (gt : List W → Fm → Option Fm) : Prop := ∀ w fm fm', gt w fm = some fm' → ∀ io h H sr v Q, Emb G io h H → RSt G (adr io) H fm sr → RWs G.K (adr io) H w v → (∀ sr', RSt G (adr io) H fm' sr' → wipe sr' vs = wipe sr vs → Q sr' H) → g v sr H Q
theorem wipe_own {σ : L2.St} {vs : List Nat} {i : Nat} {x : Option V} (h : i ∈ vs) : wipe (σ.set i x) vs = wipe σ vs := by
  apply List.ext_getElem?
  intro j
  rw [wipe_get, wipe_get, List.length_set]
  by_cases q : j ∈ vs ∧ j < σ.length
  · rw [if_pos q, if_pos q]
  · rw [if_neg q, if_neg q]
    by_cases z : i = j
    · subst z
      have hl : ¬ i < σ.length := fun z => q ⟨h, z⟩
      rw [List.getElem?_eq_none (by rw [List.length_set]; omega), List.getElem?_eq_none (by omega)]
    · rw [List.getElem?_set_ne z]
theorem simw_gnil {vs : List Nat} : SimGsW G vs gNil gtNil := by
  intro w fm fm' e io h H sr v Q E S r k
  unfold gtNil at e
  split at e
  · cases e; cases r
    exact ⟨rfl, k _ S rfl⟩
  · cases e
theorem simw_gcons {vs : List Nat} (i : Nat) {t : TGs} {g : List W → Fm → Option Fm} (hi : i ∈ vs) (hg : SimGsW G vs t g) (fr : G.Free i := by first | exact fun _ z => nomatch z | (intro _ z; simp at z)) : SimGsW G vs (gCons (gName i) t) (gtCons i g) := by
  intro w fm fm' e io h H sr v Q E S r k
  unfold gtCons at e
  split at e
  · cases r with
    | cons r1 r2 => exact ⟨_, _, rfl, hg _ _ _ e io h H _ _ Q E (S.set fr r1) r2 fun sr' S' z => k sr' S' (z.trans (wipe_own hi))⟩
  · cases e
theorem simw_gtup {vs : List Nat} {t : TGs} {g : List W → Fm → Option Fm} {n : Nat} (hg : SimGsW G vs t g) (hl : ∀ ws fm fm', g ws fm = some fm' → ws.length = n) : SimGW G vs (gTup G.K n t) (gtTup g) := by
  intro w fm fm' e io h H sr v Q E S r k
  unfold gtTup at e
  split at e
  · cases r with
    | tup ha hr => exact ⟨_, _, rfl, .inl (.inl ha), by rw [← hr.length]; exact hl _ _ _ e, hg _ _ _ e io h H _ _ Q E S hr k⟩
  · cases e
def lcT (src : Sc) (gt : GT) (ft : FT) (fe : FE) (fm : Fm) : Nat → Nat → List W → VH → Option (List W × VH)
  | 0, _, _, _ => none
  | k + 1, i, acc, h => match src.nx h i with
    | none => none
    | some none => some (acc, h)
    | some (some w) => match gt w fm with
      | none => none
      | some fm1 => match ft fm1 h with
        | some (.ok b, h1) => if b = true then (match fe fm1 h1 with
          | some (.ok y, h2) => if acc.length < sizeLine then lcT src gt ft fe fm k (i + 1) (acc ++ [y]) h2 else none
          | _ => none) else lcT src gt ft fe fm k (i + 1) acc h1
        | _ => none
@[simp] def fLcT (fi : FI) (gt : GT) (vs : List Nat) (ft : FT) (fe : FE) : FE := fun fm h => bindM (fi fm h) fun src h1 => match lcT src gt ft fe (wipeV fm vs) (src.cnt h1 + 1) 0 [] h1 with
  | some (xs, h2) => some (.ok (.rl xs), h2)
  | none => none
theorem lc_readT {fi : FI} {g : TG} {gt : GT} {vs : List Nat} {ft : FT} {fe : FE} (sg : SimGW G vs g gt) (fr : ∀ v ∈ vs, G.Free v) {s : L2.St} {H : Hp} {Q : VK} (q : cE G Wx (fLcT fi gt vs ft fe) s H Q) : tFz (tLc (cI G Wx fi) g (cT G WF ft) (cE G WF fe) vs) s H Q := by
  obtain ⟨fm, h, r, h', io, e, E, S, p⟩ := q
  refine cG_step E S e p fun src h1 e1 io1 H1 J x1 E1 rJ => ?_
  intro D nD
  split at e1
  · rename_i xs h2 e2
    cases e1
    obtain ⟨E2, x2⟩ := E1.side (o := .lst []) nD
    refine ⟨fun i m Hc => ∃ hc ioc acc us, lcT src gt ft fe (wipeV fm vs) m i acc hc = some (xs, h') ∧ Emb G ioc hc Hc ∧ Ext io1 H1 ioc Hc ∧ Hc D = some (.lst us) ∧ RWs G.K (adr ioc) Hc acc us ∧ D ∉ ioc.flatten, ⟨_, _, _, _, _, e2, E2, x2, upd_same, .nil, E1.fresh nD⟩, ?_⟩
    rintro i m Hc ⟨hc, ioc, acc, us, ec, Ec, xc, hD, ru, fD⟩
    cases m with
    | zero => simp [lcT] at ec
    | succ k =>
      have rJc := rJ.ext xc
      unfold lcT at ec
      split at ec
      · cases ec
      · rename_i en
        cases ec
        refine .inl ⟨rJc.stop Ec en, .inr ⟨D, us, hD, fun od => ?_⟩⟩
        exact p ioc _ (x1.trans (xc.aside nD)) (Ec.aside hD trivial fD) _ (.rl (.inl ⟨od, upd_same⟩) (ru.wr hD trivial))
      · rename_i w en
        obtain ⟨g1, g2⟩ := rJc.go Ec en
        refine .inr ⟨g1, _, fun H' z => ⟨k, Nat.lt_succ_self k, z⟩, fun x H' y => ?_⟩
        obtain ⟨xa, Ea, ra⟩ := g2 x H' y
        have S0 : RSt G (adr ioc) H' (wipeV fm vs) (wipe s vs) := wipe_rel (S.ext ((x1.trans xc).trans xa)) vs fr
        obtain ⟨hDa, fDa⟩ := xa.away hD fD
        split at ec
        · cases ec
        · rename_i fm1 eg
          refine sg _ _ _ eg ioc hc H' (wipe s vs) x _ Ea S0 ra fun sr1 S1 zw => ?_
          have zw' : wipe sr1 vs = wipe s vs := by
            rw [zw]
            apply List.ext_getElem?
            intro j
            rw [wipe_get, wipe_get, wipe_length]
            by_cases q : j ∈ vs ∧ j < s.length
            · rw [if_pos q, if_pos q]
            · rw [if_neg q, if_neg q]
          refine ⟨zw', ?_⟩
          split at ec
          · rename_i b h3 e3
            refine ⟨_, hc, _, h3, ioc, e3, Ea, S1, fun io3 H3 x3 E3 b' hb' => ?_⟩
            cases (show b = b' from hb')
            obtain ⟨hD3, fD3⟩ := x3.away hDa fDa
            split at ec
            · rename_i hb
              rw [if_pos hb]
              split at ec
              · rename_i y1 h4 e4
                refine ⟨_, h3, _, h4, io3, e4, E3, S1.ext x3, fun io4 H4 x4 E4 y2 ry => ?_⟩
                split at ec
                · rename_i hl
                  obtain ⟨hD4, fD4⟩ := x4.away hD3 fD3
                  have ru4 := ((ru.ext xa).ext x3).ext x4
                  exact ⟨us, hD4, by rw [← ru.length]; exact hl, _, _, _, _, ec, E4.aside hD4 trivial fD4, (((xc.trans xa).trans x3).trans x4).aside nD, upd_same, (ru4.append (.cons ry .nil)).wr hD4 trivial, fD4⟩
                · cases ec
              · cases ec
            · rename_i hb
              rw [if_neg hb]
              exact ⟨h3, io3, acc, us, ec, E3, (xc.trans xa).trans x3, hD3, (ru.ext xa).ext x3, fD3⟩
          · cases ec
  · cases e1
theorem se_lcT {elt iter : Expr} {ifs : List Expr} {scope : Scope} {fi : FI} {g : TG} {gt : GT} {vs : List Nat} {ft : FT} {fe : FE} (hc : X.calm = true) (hN : X.N.Nodup) (own : List (Str × Nat)) (hvs : own.map (·.2) = vs) (hi : SI G X Wx tg iter fi) (ok : BlkOk X.N X.env.scope scope own)
    (hg : ∀ (s : Shared) (H : Hp) (C : Addr) (cl : List (Str × Addr)) (fp : List Addr), PG (X.blk s H scope (compEnvC scope cl C X.env) fp) tg g) (sg : SimGW G vs g gt) (ht : ∀ (s : Shared) (H : Hp) (C : Addr) (cl : List (Str × Addr)) (fp : List Addr), PTs (X.blk s H scope (compEnvC scope cl C X.env) fp) ifs (cT G WF ft))
    (he : ∀ (s : Shared) (H : Hp) (C : Addr) (cl : List (Str × Addr)) (fp : List Addr), SE G (X.blk s H scope (compEnvC scope cl C X.env) fp) WF elt fe) (hs : ∀ x, foldedSetIterable iter X.env x = pure x := by intro _; rfl) (fr : ∀ v ∈ vs, G.Free v := by first | exact fun _ _ _ z => nomatch z | (intro v hv a z; simp at hv z; omega)) :
    SE G X Wx (.ListComp elt [⟨tg, iter, ifs, 0⟩] scope pos) (fLcT fi gt vs ft fe) := PEw (pe_fz (pe_lc hc hN hi ok hg ht he hs)) fun _ _ _ q => by
  rw [hvs]
  exact lc_readT sg fr q
end
end Tw

/-! a comprehension of a maker of lambdas that hands them on: the captured cell belongs to the ground of its turns -/
namespace Tw
open PySem PySem.Spec PyProof.Rows L2
abbrev blkB (X : Cx) (base' : Heap) (s : Shared) (H : Hp) (scope : Scope) (ce : Env) (fp : List Addr) : Cx := { X.blk s H scope ce fp with base := base' }
section
variable {X : Cx} {tg : Expr}
theorem lcb_core {ps : List (Addr × Obj)} {s : Shared} {σ : L2.St} {H : Hp} {Q : VK} {elt iter : Expr} {ifs : List Expr} {scope : Scope} {own : List (Str × Nat)} {pos pos' : Pos} {wi : TI} {g : TG} {tt : TT} {te : TE} {use : Option (Value → Sem Unit)} {Qf : Value → Shared → Prop} {y : Str} {kc : Nat} {cc : Addr} {v : V}
    (hc : X.calm = true) (hN : X.N.Nodup) (I : Inv X ps σ H s) (hv : σ[kc]? = some (some v)) (hkc : X.N[kc]? = some y) (hcl : X.env.cells.lookup y = some cc) (hkd : X.env.scope.names.lookup y = some .cell) (hfn : X.fn y = true) (hi : PI X tg iter wi) (ok : BlkOk X.N X.env.scope scope own)
    (hg : ∀ (b : Heap) (s : Shared) (H : Hp) (C : Addr) (cl : List (Str × Addr)) (fp : List Addr), PG (blkB X b s H scope (compEnvC scope cl C X.env) fp) tg g) (ht : ∀ (b : Heap) (s : Shared) (H : Hp) (C : Addr) (cl : List (Str × Addr)) (fp : List Addr), LamCell b cc (some (some v)) → PTs (blkB X b s H scope (compEnvC scope cl C X.env) fp) ifs tt)
    (he : ∀ (b : Heap) (s : Shared) (H : Hp) (C : Addr) (cl : List (Str × Addr)) (fp : List Addr), LamCell b cc (some (some v)) → PE (blkB X b s H scope (compEnvC scope cl C X.env) fp) elt te) (hs : ∀ x, foldedSetIterable iter X.env x = pure x) (h : tLc wi g tt te (own.map (·.2)) σ H Q)
    (hRR : ∀ D C s' m H', Inv X ps σ H' s' → Q (.ref D) H' → s'.heap.Ns C m → FpOk X ps H' C → compPost (model X.prog X.w) X.A X.xe use Qf (.ref D) C (.ok .next) s') :
    wpAny (model X.prog X.w) X.A (comprehension (.ListComp elt [⟨tg, iter, ifs, 0⟩] scope pos) scope X.env pos' (newList []) false (eval iter X.env) use) Qf X.xe s := by
  have hfr : ∀ y ∈ scope.names, y.2 = .free → ∃ c, X.env.cells.lookup y.1 = some c := fun y hy e => (ok.free y hy e).elim (fun k => I.ok.has _ (.inl k)) fun k => I.ok.has _ (.inr k)
  refine wpAny_comprehension_free (use := use) rfl hs (closure_ok hfr) ok.kind (fun y hy e => by rw [ok.uniq y hy, e]) (thn (hi.run ps s σ H _ I h) fun xv s1 hx => thn hx fun itv s2 ⟨it, fp, tn, J, H2, e, I2, T, st2, f2, q⟩ => ?_)
  subst e
  refine wpAny_newObj_type (newEnv_comp ?_) (show 0 ≤ sizeLine by decide)
  generalize hD : s2.heap.objs.size = D
  have nD : H2 D = none := I2.hok.fresh (Nat.le_of_eq hD)
  obtain ⟨W, ⟨m0, w0⟩, turn⟩ := q D nD
  generalize hs3 : ({ s2 with heap := s2.heap.push { cls := .type "list", data := .seq ([] : List Value).toArray } } : Shared) = s3
  have h3 : s3.heap = s2.heap.push { cls := .type "list", data := .seq ([] : List Value).toArray } := by rw [← hs3]
  have I3 : Inv X ps σ (upd H2 D (.lst [])) s3 := by
    rw [← hs3]
    exact I2.laid (t' := s2.toks) (fun b o e => Heap.get?_push_of_some _ e) (Nat.le_of_eq hD) ⟨Nat.zero_le _, [], 0, .nil, by rw [← hD]; exact Heap.get?_push_size _ rfl⟩
  have f3 : ∀ b ∈ fp, FpOk X ps (upd H2 D (.lst [])) b ∧ b < s3.heap.objs.size := fun b z => by
    obtain ⟨o, e, _⟩ := T.obj _ _ st2 b z
    have lt := Heap.lt_size e
    exact ⟨⟨by rw [upd_ne (by rw [← hD]; exact Nat.ne_of_lt lt)]; exact (f2 b z).1, (f2 b z).2⟩, by rw [h3, Heap.size_push]; exact Nat.lt_succ_of_lt lt⟩
  have st3 : tn 0 s3.heap := T.keep _ _ _ st2 fun b _ o e => by rw [h3]; exact Heap.get?_push_of_some _ e
  -- the captured cell
  obtain ⟨mL, hnsL, hlL⟩ := I3.loc
  obtain ⟨u, ru, lk⟩ := hlL kc y v hkc hv (.inr (.inl hkd))
  have hcellS : s3.heap.IsCell cc (some u) := by
    rcases lk with ⟨z, _⟩ | ⟨_, c, hcc, z⟩
    · have z' : X.env.scope.names.lookup y = some .local := z
      rw [hkd] at z'
      cases z'
    · rw [hcl] at hcc
      cases hcc
      exact z
  obtain ⟨e0, hcell⟩ := env_cell I3 hcl hfn
  have LC : LamCell (baseC X.base s3.heap cc) cc (some (some v)) := ⟨some v, rfl, fun v' z => by cases z; exact ⟨u, hcell _ hcellS, ru⟩⟩
  have I40 := block_start I3 ok hN f3
  have pg := hg (baseC X.base s3.heap cc) s3 (upd H2 D (.lst [])) s3.heap.objs.size (cellsFrom (s3.heap.objs.size + 1) scope.names (cloFrom X.env.cells scope.names [])) fp
  have pt := ht (baseC X.base s3.heap cc) s3 (upd H2 D (.lst [])) s3.heap.objs.size (cellsFrom (s3.heap.objs.size + 1) scope.names (cloFrom X.env.cells scope.names [])) fp LC
  have pe := he (baseC X.base s3.heap cc) s3 (upd H2 D (.lst [])) s3.heap.objs.size (cellsFrom (s3.heap.objs.size + 1) scope.names (cloFrom X.env.cells scope.names [])) fp LC
  change codeAny _ _ (.compStart (.ListComp elt [⟨tg, iter, ifs, 0⟩] scope pos) 0 (.ref it) (.ref D) (compEnvC scope (cellsFrom (s3.heap.objs.size + 1) scope.names (cloFrom X.env.cells scope.names [])) s3.heap.objs.size X.env)) (compPost (model X.prog X.w) X.A X.xe use Qf (.ref D) s3.heap.objs.size) { s3 with heap := pushCells (s3.heap.push { cls := .type "dict", data := .dict #[] }) scope.names }
  generalize hce : compEnvC scope (cellsFrom (s3.heap.objs.size + 1) scope.names (cloFrom X.env.cells scope.names [])) s3.heap.objs.size X.env = ce at I40 pg pt pe ⊢
  have cL : ce.locals = s3.heap.objs.size := by subst hce; rfl
  generalize hH3 : upd H2 D (.lst []) = H3 at I3 I40 pg pt pe w0 f3 e0
  generalize hs4 : ({ s3 with heap := pushCells (s3.heap.push { cls := .type "dict", data := .dict #[] }) scope.names } : Shared) = s4 at I40 ⊢
  generalize hBB : baseC X.base s3.heap cc = BB at *
  have noex : ∀ b o, BB.get? b = some o → b ∉ fp := fun b o e z => by
    rw [← hBB] at e
    obtain ⟨e1, e2⟩ := of_hidT e
    split at e2
    · rename_i hh
      rcases hh with q1 | q1
      · cases q2 : X.base.get? b with
        | none => rw [q2] at q1; cases q1
        | some o2 => exact I40.ok.noex b o2 q2 z
      · exact (f3 b z).1.2.2.2.2.1 y cc hcl q1.symm
    · cases e2
  have I4 : Inv (blkB X BB s3 H3 scope ce fp) [] (wipe σ (own.map (·.2))) H3 s4 := ⟨{ I40.ok with mod := e0.mod, bs := e0.bs, bsz := e0.bsz, noex := noex, funs := e0.funs }, I40.os, I40.bare, I40.base, I40.loc, I40.cell, I40.free, I40.freeC, I40.pin, I40.hok, I40.len⟩
  have st4 : tn 0 s4.heap := T.keep _ _ _ st3 fun b _ o e => by rw [← hs4]; exact pushCells_keeps _ _ _ _ (Heap.get?_push_of_some _ e)
  have fok : ∀ {σ' : L2.St} {H' : Hp} {t : Shared}, Inv (blkB X BB s3 H3 scope ce fp) [] σ' H' t → (∀ b ∈ fp, H' b = none) → ∀ b ∈ fp, FpOk (blkB X BB s3 H3 scope ce fp) [] H' b := fun J n b z =>
    ⟨n b z, (J.ok.exf b z).1, J.ok.exfs b z, .inl z, (J.ok.exf b z).2, fun r hr => by cases (show r ∈ ([] : List (Addr × Obj)) ++ [] from hr)⟩
  have loop : codeAny (model X.prog X.w) X.A (.compLoop (.ListComp elt [⟨tg, iter, ifs, 0⟩] scope pos) 0 (.ref it) (.ref D) ce) (compPost (model X.prog X.w) X.A X.xe use Qf (.ref D) s3.heap.objs.size) s4 := by
    refine compLoop_any (fun n t => ∃ i H', Inv (blkB X BB s3 H3 scope ce fp) [] (wipe σ (own.map (·.2))) H' t ∧ tn i t.heap ∧ (∀ b ∈ fp, H' b = none) ∧ W i n H') (fun n s5 ⟨i, H5, I5, st5, n5, w5⟩ => ?_) m0 ⟨0, H3, I4, st4, fun b z => (f3 b z).1.1, w0⟩
    rcases turn i n H5 w5 with ⟨stop, qq⟩ | ⟨go, Nx, hNx, step⟩
    · refine thnF (T.done (blkB X BB s3 H3 scope ce fp) rfl rfl rfl hc i [] s5 _ H5 (fun _ _ => False) I5 (fok I5 n5) st5 stop) fun r s6 ⟨hr, I6⟩ => ?_
      subst hr
      have I7 : Inv X ps σ H5 s6 := I3.call' (ch := fp) I6.os I6.base I6.hok I6.bare fun b z => ⟨(f3 b z).1.2.2.2.1, (f3 b z).1.2.1, (f3 b z).1.2.2.2.2.1, (f3 b z).1.2.2.2.2.2⟩
      have z6 : H5 ce.locals = none := I6.free
      obtain ⟨m, hn, _⟩ := I6.loc
      have hn' : s6.heap.Ns ce.locals m := hn
      rw [cL] at hn' z6
      exact hRR D _ s6 m H5 I7 qq hn' (I3.fpOk (Nat.le_refl _) z6)
    · refine thnF (T.item (blkB X BB s3 H3 scope ce fp) rfl rfl rfl hc i [] s5 _ H5 (fun _ _ => False) I5 (fok I5 n5) st5 go) fun r s6 ⟨u, hr, h6⟩ => ?_
      subst hr
      refine thnF h6 fun _ s7 ⟨x, H7, I7, r7, y7, st7, n7⟩ => ?_
      refine thnF (pg.run _ s7 _ H7 x u _ (I7.pinned (fok I7 n7) (T.obj _ _ st7)) r7 (step x H7 y7)) fun _ s8 ⟨σ8, H8, I8, hw8, q8⟩ => ?_
      refine thnF (pt.run _ s8 σ8 H8 _ I8 q8) fun b s9 ⟨H9, I9, q9⟩ => ?_
      have fin : ∀ {t : Shared} {H' : Hp}, Inv (blkB X BB s3 H3 scope ce fp) ([] ++ pinsAt fp s7.heap) σ8 H' t → Nx H' → ∃ m, m < n ∧ ∃ i H', Inv (blkB X BB s3 H3 scope ce fp) [] (wipe σ (own.map (·.2))) H' t ∧ tn i t.heap ∧ (∀ b ∈ fp, H' b = none) ∧ W i m H' := fun {t H'} J nx => by
        obtain ⟨m', lt, w'⟩ := hNx H' nx
        have kp : ∀ b ∈ fp, ∀ o, s7.heap.get? b = some o → t.heap.get? b = some o ∧ H' b = none := fun b z o e =>
          let y := J.pin (b, o) (List.mem_append_right _ (List.mem_append_right _ (mem_pinsAt z e)))
          ⟨y.1, y.2.1⟩
        refine ⟨m', lt, i + 1, H', (J.unpinned (pins := [])).weak (by rw [← hw8, wipe_length]) fun j v e => ?_, T.keep _ _ _ st7 fun b z o e => (kp b z o e).1, fun b z => ?_, w'⟩
        · rw [← hw8] at e
          exact (wipe_some e).1
        · obtain ⟨o, e, _⟩ := T.obj _ _ st7 b z
          exact (kp b z o e).2
      cases b with
      | false => exact fin I9 q9
      | true => exact thnF (pe.run _ s9 σ8 H9 _ I9 q9) fun z s10 ⟨yv, H10, I10, r10, acc, hD10, hz10, nx⟩ => app_ok (X := blkB X BB s3 H3 scope ce fp) I10 hD10 hz10 r10 fun s11 I11 => fin I11 nx
  exact codeAny_compStart_list loop (T.self X.A 0 _ _ _ st4 loop)
def tLcB (kc : Nat) (wi : TI) (g : TG) (tt : V → TT) (te : V → TE) (vs : List Nat) : TE := fun σ H Q => ∃ v, σ[kc]? = some (some v) ∧ tLc wi g (tt v) (te v) vs σ H Q
theorem peb_lc {elt iter : Expr} {ifs : List Expr} {scope : Scope} {own : List (Str × Nat)} {pos : Pos} {wi : TI} {g : TG} {tt : V → TT} {te : V → TE} {y : Str} {kc : Nat} {cc : Addr} (hc : X.calm = true) (hN : X.N.Nodup) (hkc : X.N[kc]? = some y) (hcl : X.env.cells.lookup y = some cc) (hkd : X.env.scope.names.lookup y = some .cell) (hfn : X.fn y = true) (hi : PI X tg iter wi) (ok : BlkOk X.N X.env.scope scope own)
    (hg : ∀ (b : Heap) (s : Shared) (H : Hp) (C : Addr) (cl : List (Str × Addr)) (fp : List Addr), PG (blkB X b s H scope (compEnvC scope cl C X.env) fp) tg g) (ht : ∀ (v : V) (b : Heap) (s : Shared) (H : Hp) (C : Addr) (cl : List (Str × Addr)) (fp : List Addr), LamCell b cc (some (some v)) → PTs (blkB X b s H scope (compEnvC scope cl C X.env) fp) ifs (tt v))
    (he : ∀ (v : V) (b : Heap) (s : Shared) (H : Hp) (C : Addr) (cl : List (Str × Addr)) (fp : List Addr), LamCell b cc (some (some v)) → PE (blkB X b s H scope (compEnvC scope cl C X.env) fp) elt (te v)) (hs : ∀ x, foldedSetIterable iter X.env x = pure x := by intro _; rfl) : PE X (.ListComp elt [⟨tg, iter, ifs, 0⟩] scope pos) (tLcB kc wi g tt te (own.map (·.2))) := ⟨fun ps s σ H Q I ⟨v, hv, h⟩ => by
  rw [eval_ListComp]
  exact lcb_core hc hN I hv hkc hcl hkd hfn hi ok hg (ht v) (he v) hs h fun D C s' m H' J q hn F => ⟨m, hn, fun h2 sb => ⟨.ref D, H', J.turned (t' := s'.toks) (fun b o hb e => (sb.2 b hb).trans e) F.1 F.2.1 F.2.2.2.1 F.2.2.2.2.1 F.2.2.2.2.2, rfl, q⟩⟩⟩
end
section
variable {G : Gm} {X : Cx} {Wx : WX} {tg : Expr} {pos : Pos}
@[simp] def fLcTB (caps : Nat → Bool) (kc : Nat) (fi : FI) (gt : GT) (vs : List Nat) (ft : FT) (fe : FE) : FE := fun fm h => match fm[kc]? with
  | some (some w) => bindM (fi fm h) fun src h1 => (match lcT src gt ft fe (wipeV fm vs) (src.cnt h1 + 1) 0 [] (h1.map (kpC caps (some w))) with
    | some (xs, h2) => some (.ok (.rl xs), h2)
    | none => none)
  | _ => none
theorem lc_readTB {caps : Nat → Bool} {kc : Nat} {fi : FI} {g : TG} {gt : GT} {vs : List Nat} {ft : FT} {fe : FE} (hG : G.cv = none) (hcaps : ∀ i r, G.lm i = some r → caps i = r.cap.isSome) (sg : ∀ v, SimGW (G.at_ G.cc (some (some v))) vs g gt) (fr : ∀ v ∈ vs, G.Free v) {s : L2.St} {H : Hp} {Q : VK} (q : cE G Wx (fLcTB caps kc fi gt vs ft fe) s H Q) :
    tFz (tLcB kc (cI G Wx fi) g (fun v => cT (G.at_ G.cc (some (some v))) WF ft) (fun v => cE (G.at_ G.cc (some (some v))) WF fe) vs) s H Q := by
  obtain ⟨fm, h, r, h', io, e, E, S, p⟩ := q
  unfold fLcTB at e
  split at e
  · rename_i wv hwv
    obtain ⟨v, hv, rv⟩ := S.2.1 kc wv hwv
    refine ⟨v, hv, ?_⟩
    refine cG_step E S e p fun src h1 e1 io1 H1 J x1 E1 rJ => ?_
    intro D nD
    split at e1
    · rename_i xs h2 e2
      cases e1
      have E1' : Emb (G.at_ G.cc (some (some v))) io1 (h1.map (kpC caps (some wv))) H1 := E1.conv _ fun l c r => kp_cell hcaps (rv.ext x1) r
      obtain ⟨E2, x2⟩ := E1'.side (o := .lst []) nD
      refine ⟨fun i m Hc => ∃ hc ioc acc us, lcT src gt ft fe (wipeV fm vs) m i acc hc = some (xs, h') ∧ Emb (G.at_ G.cc (some (some v))) ioc hc Hc ∧ Ext io1 H1 ioc Hc ∧ Hc D = some (.lst us) ∧ RWs G.K (adr ioc) Hc acc us ∧ D ∉ ioc.flatten, ⟨_, _, _, _, _, e2, E2, x2, upd_same, .nil, E1.fresh nD⟩, ?_⟩
      rintro i m Hc ⟨hc, ioc, acc, us, ec, Ec, xc, hD, ru, fD⟩
      cases m with
      | zero => simp [lcT] at ec
      | succ k =>
        have rJc : RI (G.at_ G.cc (some (some v))).K (adr ioc) Hc src J := rJ.ext xc
        unfold lcT at ec
        split at ec
        · cases ec
        · rename_i en
          cases ec
          refine .inl ⟨rJc.stop Ec en, .inr ⟨D, us, hD, fun od => ?_⟩⟩
          exact p ioc _ (x1.trans (xc.aside nD)) (bk_emb hG (Ec.aside hD trivial fD)) _ (.rl (.inl ⟨od, upd_same⟩) (ru.wr hD trivial))
        · rename_i w en
          obtain ⟨g1, g2⟩ := rJc.go Ec en
          refine .inr ⟨g1, _, fun H' z => ⟨k, Nat.lt_succ_self k, z⟩, fun x H' y => ?_⟩
          obtain ⟨xa, Ea, ra⟩ := g2 x H' y
          have S0 : RSt (G.at_ G.cc (some (some v))) (adr ioc) H' (wipeV fm vs) (wipe s vs) := wipe_rel (G := G) (S.ext ((x1.trans xc).trans xa)) vs fr
          obtain ⟨hDa, fDa⟩ := xa.away hD fD
          split at ec
          · cases ec
          · rename_i fm1 eg
            refine sg v _ _ _ eg ioc hc H' (wipe s vs) x _ Ea S0 ra fun sr1 S1 zw => ?_
            have zw' : wipe sr1 vs = wipe s vs := by
              rw [zw]
              apply List.ext_getElem?
              intro j
              rw [wipe_get, wipe_get, wipe_length]
              by_cases q : j ∈ vs ∧ j < s.length
              · rw [if_pos q, if_pos q]
              · rw [if_neg q, if_neg q]
            refine ⟨zw', ?_⟩
            split at ec
            · rename_i b h3 e3
              refine ⟨_, hc, _, h3, ioc, e3, Ea, S1, fun io3 H3 x3 E3 b' hb' => ?_⟩
              cases (show b = b' from hb')
              obtain ⟨hD3, fD3⟩ := x3.away hDa fDa
              split at ec
              · rename_i hb
                rw [if_pos hb]
                split at ec
                · rename_i y1 h4 e4
                  refine ⟨_, h3, _, h4, io3, e4, E3, S1.ext x3, fun io4 H4 x4 E4 y2 ry => ?_⟩
                  split at ec
                  · rename_i hl
                    obtain ⟨hD4, fD4⟩ := x4.away hD3 fD3
                    have ru4 := ((ru.ext xa).ext x3).ext x4
                    exact ⟨us, hD4, by rw [← ru.length]; exact hl, _, _, _, _, ec, E4.aside hD4 trivial fD4, (((xc.trans xa).trans x3).trans x4).aside nD, upd_same, (ru4.append (.cons ry .nil)).wr hD4 trivial, fD4⟩
                  · cases ec
                · cases ec
              · rename_i hb
                rw [if_neg hb]
                exact ⟨h3, io3, acc, us, ec, E3, (xc.trans xa).trans x3, hD3, (ru.ext xa).ext x3, fD3⟩
            · cases ec
    · cases e1
  · cases e
theorem se_lcTB {caps : Nat → Bool} {elt iter : Expr} {ifs : List Expr} {scope : Scope} {fi : FI} {g : TG} {gt : GT} {vs : List Nat} {ft : FT} {fe : FE} {y : Str} (kc : Nat) (hG : G.cv = none) (hcaps : ∀ i r, G.lm i = some r → caps i = r.cap.isSome) (hkc : X.N[kc]? = some y) (hcl : X.env.cells.lookup y = some G.cc) (hkd : X.env.scope.names.lookup y = some .cell) (hfn : X.fn y = true)
    (hc : X.calm = true) (hN : X.N.Nodup) (own : List (Str × Nat)) (hvs : own.map (·.2) = vs) (hi : SI G X Wx tg iter fi) (ok : BlkOk X.N X.env.scope scope own)
    (hg : ∀ (b : Heap) (s : Shared) (H : Hp) (C : Addr) (cl : List (Str × Addr)) (fp : List Addr), PG (blkB X b s H scope (compEnvC scope cl C X.env) fp) tg g) (sg : ∀ v, SimGW (G.at_ G.cc (some (some v))) vs g gt)
    (ht : ∀ (v : V) (b : Heap) (s : Shared) (H : Hp) (C : Addr) (cl : List (Str × Addr)) (fp : List Addr), LamCell b G.cc (some (some v)) → PTs (blkB X b s H scope (compEnvC scope cl C X.env) fp) ifs (cT (G.at_ G.cc (some (some v))) WF ft))
    (he : ∀ (v : V) (b : Heap) (s : Shared) (H : Hp) (C : Addr) (cl : List (Str × Addr)) (fp : List Addr), LamCell b G.cc (some (some v)) → SE (G.at_ G.cc (some (some v))) (blkB X b s H scope (compEnvC scope cl C X.env) fp) WF elt fe) (hs : ∀ x, foldedSetIterable iter X.env x = pure x := by intro _; rfl) (fr : ∀ v ∈ vs, G.Free v := by first | exact fun _ _ _ z => nomatch z | (intro v hv a z; simp at hv z; omega)) :
    SE G X Wx (.ListComp elt [⟨tg, iter, ifs, 0⟩] scope pos) (fLcTB caps kc fi gt vs ft fe) := PEw (pe_fz (peb_lc (kc := kc) hc hN hkc hcl hkd hfn hi ok hg ht he hs)) fun _ _ _ q => by
  rw [hvs]
  exact lc_readTB hG hcaps sg fr q
end
end Tw

namespace Pr
open PySem PySem.Spec PyProof.Rows L2 Tw
def topS (i : Nat) : Stmt := PySem.Challenge.pw_twoporch_k15_whole_long.main.body.getD i (.Pass ⟨0, 0, 0, 0⟩)
def flOf : Nat → List Str
  | 0 => ["marks", "window", "life", "said", "known", "heard", "early", "roads", "stands", "now", "last"]
  | 1 => ["words"]
  | 2 => ["place"]
  | 4 => ["story"]
  | _ => []
def rkOf : Nat → List Str
  | 0 => ["bounds", "said", "known", "heard", "kept", "roads", "up", "now", "last"]
  | 1 => ["say", "post", "answer", "bring", "lose", "fall", "rise", "tick"]
  | _ => []
def subOf (n : Nat) : Nat → Option Bool := fun c => if c ∈ [0, 3, 4, 1, 2] then some (decide (c = n) || (decide (n = 5) && decide (1 ≤ c))) else none
def tab_SIZES : List (Str × Int) := [("say", 2), ("post", 3), ("answer", 2), ("bring", 3), ("lose", 3), ("fall", 2), ("rise", 2), ("tick", 1)]
abbrev s_is_whole : Stmt := topS 19
abbrev N_is_whole : List Str := ["thing"]
abbrev s_asked_bounds : Stmt := topS 20
abbrev N_asked_bounds : List Str := ["marks", "window", "life"]
abbrev s_Talk_init : Stmt := inClass (topS 21) 0
abbrev N_Talk_init : List Str := ["self", "marks", "window", "life"]
abbrev s_Talk_ask_porch : Stmt := inClass (topS 21) 1
abbrev N_Talk_ask_porch : List Str := ["self", "porch"]
abbrev s_Talk_say : Stmt := inClass (topS 21) 2
abbrev N_Talk_say : List Str := ["self", "word"]
abbrev s_Talk_put_on : Stmt := inClass (topS 21) 3
abbrev N_Talk_put_on : List Str := ["self", "porch", "letter"]
abbrev s_Talk_post : Stmt := inClass (topS 21) 4
abbrev N_Talk_post : List Str := ["self", "porch", "number"]
abbrev s_Talk_answer : Stmt := inClass (topS 21) 5
abbrev N_Talk_answer : List Str := ["self", "porch"]
abbrev s_Talk_take_off : Stmt := inClass (topS 21) 6
abbrev N_Talk_take_off : List Str := ["self", "porch", "place"]
abbrev s_Talk_bring : Stmt := inClass (topS 21) 7
abbrev N_Talk_bring : List Str := ["self", "porch", "place", "letter", "more", "fresh", "number"]
abbrev s_Talk_lose : Stmt := inClass (topS 21) 8
abbrev N_Talk_lose : List Str := ["self", "porch", "place"]
abbrev s_Talk_fall : Stmt := inClass (topS 21) 9
abbrev N_Talk_fall : List Str := ["self", "porch", "gone"]
abbrev s_Talk_rise : Stmt := inClass (topS 21) 10
abbrev N_Talk_rise : List Str := ["self", "porch"]
abbrev s_Talk_tick : Stmt := inClass (topS 21) 11
abbrev N_Talk_tick : List Str := ["self", "gone", "porch", "kept", "pair"]
abbrev s_Talk_words_heard : Stmt := inClass (topS 21) 12
abbrev N_Talk_words_heard : List Str := ["self"]
abbrev s_Talk_words_said : Stmt := inClass (topS 21) 13
abbrev N_Talk_words_said : List Str := ["self"]
abbrev s_Talk_road : Stmt := inClass (topS 21) 15
abbrev N_Talk_road : List Str := ["self", "porch", "pair"]
abbrev s_do_deed : Stmt := topS 24
abbrev N_do_deed : List Str := ["talk", "deed", "word"]
abbrev s_play : Stmt := topS 25
abbrev N_play : List Str := ["marks", "window", "life", "story", "talk", "place", "deed"]
abbrev s_Sure_shows : Stmt := inClass (topS 26) 0
abbrev N_Sure_shows : List Str := ["self", "marks", "window", "life"]
abbrev s_Fooled_init : Stmt := inClass (topS 27) 0
abbrev N_Fooled_init : List Str := ["self", "story"]
abbrev s_Fooled_shows : Stmt := inClass (topS 27) 1
abbrev N_Fooled_shows : List Str := ["self", "marks", "window", "life", "talk", "place", "words"]
abbrev s_Done_init : Stmt := inClass (topS 28) 0
abbrev N_Done_init : List Str := ["self", "words"]
abbrev s_Done_shows : Stmt := inClass (topS 28) 1
abbrev N_Done_shows : List Str := ["self", "marks", "window", "life", "story", "talk", "place"]
abbrev s_Halt_init : Stmt := inClass (topS 29) 0
abbrev N_Halt_init : List Str := ["self", "place"]
abbrev s_Halt_shows : Stmt := inClass (topS 29) 1
abbrev N_Halt_shows : List Str := ["self", "marks", "window", "life", "story", "place"]
abbrev s_is_deed : Stmt := topS 33
abbrev N_is_deed : List Str := ["thing", "one"]
abbrev s_told : Stmt := topS 34
abbrev N_told : List Str := ["marks", "window", "life", "story", "talk", "place", "deed"]
abbrev s_heard_one : Stmt := topS 35
abbrev N_heard_one : List Str := ["number"]
abbrev s_answered : Stmt := topS 36
abbrev N_answered : List Str := []
abbrev s_story_of : Stmt := topS 37
abbrev N_story_of : List Str := ["marks", "window", "life", "many", "story", "number"]
abbrev s_judged : Stmt := topS 38
abbrev N_judged : List Str := ["marks", "window", "life"]
abbrev s__law_refused : Stmt := topS 40
abbrev N__law_refused : List Str := ["_law_ask", "_law_thing", "_law_due", "error", "_law_kinds", "_law_kind"]
abbrev s__law_great : Stmt := topS 41
abbrev N__law_great : List Str := ["_law_far", "_law_found", "_law_turn"]
abbrev s_law : Stmt := topS 42
abbrev N_law : List Str := ["_law_script", "_law_whole", "_law_great_here", "_law_deed", "_law_answer", "_law_talk", "_law_asks", "_law_ask", "_law_due"]
abbrev lmR_0 : LamRec := lamRec (kidE (exS ((defBody s_law).getD 8 nS0)) 0) (lamQ "law") none ["_law_one"]
abbrev lmR_1 : LamRec := lamRec (kidE (exS ((defBody s_law).getD 8 nS0)) 1) (lamQ "law") none ["_law_two"]
abbrev lmR_2 : LamRec := lamRec (kidE (kidE (exS ((defBody s_law).getD 9 nS0)) 1) 0) (lamQ "law") none ["_law_three"]
abbrev lmR_3 : LamRec := lamRec (kidE (kidE (exS ((defBody s_law).getD 9 nS0)) 1) 1) (lamQ "law") (some "_law_talk") ["_law_four"]
abbrev lmR_4 : LamRec := lamRec (kidE (kidE (exS ((defBody s_law).getD 10 nS0)) 1) 0) (lamQ "law") (some "_law_talk") ["_law_five"]
abbrev lmR_5 : LamRec := lamRec (kidE (kidE (exS ((defBody s_law).getD 10 nS0)) 1) 1) (lamQ "law") (some "_law_talk") ["_law_six"]
def lmOf : Nat → Option LamRec
  | 0 => some lmR_0
  | 1 => some lmR_1
  | 2 => some lmR_2
  | 3 => some lmR_3
  | 4 => some lmR_4
  | 5 => some lmR_5
  | _ => none
def capsOf : Nat → Bool
  | 0 => false
  | 1 => false
  | 2 => false
  | 3 => true
  | 4 => true
  | 5 => true
  | _ => false
def arOf : Nat → Nat
  | 0 => 1
  | 1 => 1
  | 2 => 1
  | 3 => 1
  | 4 => 1
  | 5 => 1
  | _ => 9
abbrev gm (K : PySem.W.Frag) (C : Nat → Addr) (cc : Addr) (cv : Option (Option V)) : Gm := ⟨K, C, flOf, rkOf, none, lmOf, cc, cv⟩
theorem caps_ok : ∀ i r, lmOf i = some r → capsOf i = r.cap.isSome := by
  intro i r h
  unfold lmOf at h
  split at h <;> first | (cases h; rfl) | cases h
structure Ub (base : Heap) (mg : Str → Option Value) (C : Nat → Addr) (fd : Nat → FuncData) : Prop where
  tb_0 : LamX.TabB base mg (C 50) (C 40)
  cd_0 : (fd 34).code = .ref (C 50)
structure Tx (pr : Params) (K : PySem.W.Frag) (mg : Str → Option Value) (C A : Nat → Addr) (fd : Nat → FuncData) : Prop where
  f_is_whole : Fun K "is_whole" "is_whole" s_is_whole (A 0) (fd 0)
  b_is_whole : Binds K (fd 0) ["thing"] []
  g_is_whole : mg "is_whole" = some (.ref (A 0))
  f_asked_bounds : Fun K "asked_bounds" "asked_bounds" s_asked_bounds (A 1) (fd 1)
  b_asked_bounds : Binds K (fd 1) ["marks", "window", "life"] []
  g_asked_bounds : mg "asked_bounds" = some (.ref (A 1))
  f_Talk_init : Fun K "__init__" "Talk.__init__" s_Talk_init (A 2) (fd 2)
  b_Talk_init : Binds K (fd 2) ["self", "marks", "window", "life"] []
  mk_0 : Mk K (C 0) (A 2)
  f_Talk_ask_porch : Fun K "ask_porch" "Talk.ask_porch" s_Talk_ask_porch (A 3) (fd 3)
  b_Talk_ask_porch : Binds K (fd 3) ["self", "porch"] []
  m_Talk_ask_porch : Meth K (C 0) "ask_porch" (A 3)
  f_Talk_say : Fun K "say" "Talk.say" s_Talk_say (A 4) (fd 4)
  b_Talk_say : Binds K (fd 4) ["self", "word"] []
  m_Talk_say : Meth K (C 0) "say" (A 4)
  f_Talk_put_on : Fun K "put_on" "Talk.put_on" s_Talk_put_on (A 5) (fd 5)
  b_Talk_put_on : Binds K (fd 5) ["self", "porch", "letter"] []
  m_Talk_put_on : Meth K (C 0) "put_on" (A 5)
  f_Talk_post : Fun K "post" "Talk.post" s_Talk_post (A 6) (fd 6)
  b_Talk_post : Binds K (fd 6) ["self", "porch", "number"] []
  m_Talk_post : Meth K (C 0) "post" (A 6)
  f_Talk_answer : Fun K "answer" "Talk.answer" s_Talk_answer (A 7) (fd 7)
  b_Talk_answer : Binds K (fd 7) ["self", "porch"] []
  m_Talk_answer : Meth K (C 0) "answer" (A 7)
  f_Talk_take_off : Fun K "take_off" "Talk.take_off" s_Talk_take_off (A 8) (fd 8)
  b_Talk_take_off : Binds K (fd 8) ["self", "porch", "place"] []
  m_Talk_take_off : Meth K (C 0) "take_off" (A 8)
  f_Talk_bring : Fun K "bring" "Talk.bring" s_Talk_bring (A 9) (fd 9)
  b_Talk_bring : Binds K (fd 9) ["self", "porch", "place"] []
  m_Talk_bring : Meth K (C 0) "bring" (A 9)
  f_Talk_lose : Fun K "lose" "Talk.lose" s_Talk_lose (A 10) (fd 10)
  b_Talk_lose : Binds K (fd 10) ["self", "porch", "place"] []
  m_Talk_lose : Meth K (C 0) "lose" (A 10)
  f_Talk_fall : Fun K "fall" "Talk.fall" s_Talk_fall (A 11) (fd 11)
  b_Talk_fall : Binds K (fd 11) ["self", "porch"] []
  m_Talk_fall : Meth K (C 0) "fall" (A 11)
  f_Talk_rise : Fun K "rise" "Talk.rise" s_Talk_rise (A 12) (fd 12)
  b_Talk_rise : Binds K (fd 12) ["self", "porch"] []
  m_Talk_rise : Meth K (C 0) "rise" (A 12)
  f_Talk_tick : Fun K "tick" "Talk.tick" s_Talk_tick (A 13) (fd 13)
  b_Talk_tick : Binds K (fd 13) ["self"] []
  m_Talk_tick : Meth K (C 0) "tick" (A 13)
  f_Talk_words_heard : Fun K "words_heard" "Talk.words_heard" s_Talk_words_heard (A 14) (fd 14)
  b_Talk_words_heard : Binds K (fd 14) ["self"] []
  m_Talk_words_heard : Meth K (C 0) "words_heard" (A 14)
  f_Talk_words_said : Fun K "words_said" "Talk.words_said" s_Talk_words_said (A 15) (fd 15)
  b_Talk_words_said : Binds K (fd 15) ["self"] []
  m_Talk_words_said : Meth K (C 0) "words_said" (A 15)
  f_Talk_road : Fun K "road" "Talk.road" s_Talk_road (A 16) (fd 16)
  b_Talk_road : Binds K (fd 16) ["self", "porch"] []
  f_do_deed : Fun K "do_deed" "do_deed" s_do_deed (A 17) (fd 17)
  b_do_deed : Binds K (fd 17) ["talk", "deed"] []
  g_do_deed : mg "do_deed" = some (.ref (A 17))
  f_play : Fun K "play" "play" s_play (A 18) (fd 18)
  b_play : Binds K (fd 18) ["marks", "window", "life", "story"] []
  g_play : mg "play" = some (.ref (A 18))
  f_Sure_shows : Fun K "shows" "Sure.shows" s_Sure_shows (A 19) (fd 19)
  b_Sure_shows : Binds K (fd 19) ["self", "marks", "window", "life"] []
  f_Fooled_init : Fun K "__init__" "Fooled.__init__" s_Fooled_init (A 20) (fd 20)
  b_Fooled_init : Binds K (fd 20) ["self", "story"] []
  mk_4 : Mk K (C 4) (A 20)
  f_Fooled_shows : Fun K "shows" "Fooled.shows" s_Fooled_shows (A 21) (fd 21)
  b_Fooled_shows : Binds K (fd 21) ["self", "marks", "window", "life"] []
  f_Done_init : Fun K "__init__" "Done.__init__" s_Done_init (A 22) (fd 22)
  b_Done_init : Binds K (fd 22) ["self", "words"] []
  mk_1 : Mk K (C 1) (A 22)
  f_Done_shows : Fun K "shows" "Done.shows" s_Done_shows (A 23) (fd 23)
  b_Done_shows : Binds K (fd 23) ["self", "marks", "window", "life", "story"] []
  m_Done_shows : Meth K (C 1) "shows" (A 23)
  f_Halt_init : Fun K "__init__" "Halt.__init__" s_Halt_init (A 24) (fd 24)
  b_Halt_init : Binds K (fd 24) ["self", "place"] []
  mk_2 : Mk K (C 2) (A 24)
  f_Halt_shows : Fun K "shows" "Halt.shows" s_Halt_shows (A 25) (fd 25)
  b_Halt_shows : Binds K (fd 25) ["self", "marks", "window", "life", "story"] []
  m_Halt_shows : Meth K (C 2) "shows" (A 25)
  f_is_deed : Fun K "is_deed" "is_deed" s_is_deed (A 26) (fd 26)
  b_is_deed : Binds K (fd 26) ["thing"] []
  g_is_deed : mg "is_deed" = some (.ref (A 26))
  f_told : Fun K "told" "told" s_told (A 27) (fd 27)
  b_told : Binds K (fd 27) ["marks", "window", "life", "story"] []
  g_told : mg "told" = some (.ref (A 27))
  f_heard_one : Fun K "heard_one" "heard_one" s_heard_one (A 28) (fd 28)
  b_heard_one : Binds K (fd 28) ["number"] []
  g_heard_one : mg "heard_one" = some (.ref (A 28))
  f_answered : Fun K "answered" "answered" s_answered (A 29) (fd 29)
  b_answered : Binds K (fd 29) [] []
  g_answered : mg "answered" = some (.ref (A 29))
  f_story_of : Fun K "story_of" "story_of" s_story_of (A 30) (fd 30)
  b_story_of : Binds K (fd 30) ["marks", "window", "life"] []
  g_story_of : mg "story_of" = some (.ref (A 30))
  f_judged : Fun K "judged" "judged" s_judged (A 31) (fd 31)
  b_judged : Binds K (fd 31) ["marks", "window", "life"] []
  g_judged : mg "judged" = some (.ref (A 31))
  f__law_refused : Fun K "_law_refused" "_law_refused" s__law_refused (A 32) (fd 32)
  b__law_refused : Binds K (fd 32) ["_law_ask", "_law_thing", "_law_due"] []
  g__law_refused : mg "_law_refused" = some (.ref (A 32))
  f__law_great : Fun K "_law_great" "_law_great" s__law_great (A 33) (fd 33)
  b__law_great : Binds K (fd 33) ["_law_far"] []
  g__law_great : mg "_law_great" = some (.ref (A 33))
  f_law : Fun K "law" "law" s_law (A 34) (fd 34)
  b_law : Binds K (fd 34) ["_law_script"] []
  g_law : mg "law" = some (.ref (A 34))
  cl_0 : Cls K (C 0)
  cl_1 : Cls K (C 1)
  cl_2 : Cls K (C 2)
  cl_3 : Cls K (C 3)
  cl_4 : Cls K (C 4)
  gc_0 : mg "Talk" = some (.ref (C 0))
  gc_1 : mg "Done" = some (.ref (C 1))
  gc_2 : mg "Halt" = some (.ref (C 2))
  gc_3 : mg "Sure" = some (.ref (C 3))
  gc_4 : mg "Fooled" = some (.ref (C 4))
  gc_10 : mg "PorchError" = some (.ref (C 10))
  gc_11 : mg "BadMarks" = some (.ref (C 11))
  gc_12 : mg "BadWindow" = some (.ref (C 12))
  gc_13 : mg "BadLife" = some (.ref (C 13))
  gc_14 : mg "BadWord" = some (.ref (C 14))
  gc_15 : mg "BadPorch" = some (.ref (C 15))
  gc_16 : mg "BadNumber" = some (.ref (C 16))
  gc_17 : mg "BadPlace" = some (.ref (C 17))
  gc_18 : mg "BadStory" = some (.ref (C 18))
  gc_19 : mg "Waits" = some (.ref (C 19))
  gc_20 : mg "Down" = some (.ref (C 20))
  na_0_early : NoAttr K (C 0) "early"
  na_0_heard : NoAttr K (C 0) "heard"
  na_0_known : NoAttr K (C 0) "known"
  na_0_last : NoAttr K (C 0) "last"
  na_0_life : NoAttr K (C 0) "life"
  na_0_marks : NoAttr K (C 0) "marks"
  na_0_now : NoAttr K (C 0) "now"
  na_0_roads : NoAttr K (C 0) "roads"
  na_0_said : NoAttr K (C 0) "said"
  na_0_stands : NoAttr K (C 0) "stands"
  na_0_window : NoAttr K (C 0) "window"
  na_1_words : NoAttr K (C 1) "words"
  na_2_place : NoAttr K (C 2) "place"
  na_4_story : NoAttr K (C 4) "story"
  xx_11 : PySem.W.excIn K (C 11) [.type "ValueError", .type "Exception", .type "BaseException", .type "object"] "ValueError.__new__" = true
  xk_11 : PySem.W.keepIn K (.ref (C 11)) = true
  xb_11 : PySem.W.subIn K (.ref (C 11)) (.type "BaseException") = some true
  xt_11 : PySem.W.typeIn K (.ref (C 11)) = some (.type "type")
  xx_12 : PySem.W.excIn K (C 12) [.type "ValueError", .type "Exception", .type "BaseException", .type "object"] "ValueError.__new__" = true
  xk_12 : PySem.W.keepIn K (.ref (C 12)) = true
  xb_12 : PySem.W.subIn K (.ref (C 12)) (.type "BaseException") = some true
  xt_12 : PySem.W.typeIn K (.ref (C 12)) = some (.type "type")
  xx_13 : PySem.W.excIn K (C 13) [.type "ValueError", .type "Exception", .type "BaseException", .type "object"] "ValueError.__new__" = true
  xk_13 : PySem.W.keepIn K (.ref (C 13)) = true
  xb_13 : PySem.W.subIn K (.ref (C 13)) (.type "BaseException") = some true
  xt_13 : PySem.W.typeIn K (.ref (C 13)) = some (.type "type")
  xx_14 : PySem.W.excIn K (C 14) [.type "ValueError", .type "Exception", .type "BaseException", .type "object"] "ValueError.__new__" = true
  xk_14 : PySem.W.keepIn K (.ref (C 14)) = true
  xb_14 : PySem.W.subIn K (.ref (C 14)) (.type "BaseException") = some true
  xt_14 : PySem.W.typeIn K (.ref (C 14)) = some (.type "type")
  xx_15 : PySem.W.excIn K (C 15) [.type "ValueError", .type "Exception", .type "BaseException", .type "object"] "ValueError.__new__" = true
  xk_15 : PySem.W.keepIn K (.ref (C 15)) = true
  xb_15 : PySem.W.subIn K (.ref (C 15)) (.type "BaseException") = some true
  xt_15 : PySem.W.typeIn K (.ref (C 15)) = some (.type "type")
  xx_16 : PySem.W.excIn K (C 16) [.type "ValueError", .type "Exception", .type "BaseException", .type "object"] "ValueError.__new__" = true
  xk_16 : PySem.W.keepIn K (.ref (C 16)) = true
  xb_16 : PySem.W.subIn K (.ref (C 16)) (.type "BaseException") = some true
  xt_16 : PySem.W.typeIn K (.ref (C 16)) = some (.type "type")
  xx_17 : PySem.W.excIn K (C 17) [.type "ValueError", .type "Exception", .type "BaseException", .type "object"] "ValueError.__new__" = true
  xk_17 : PySem.W.keepIn K (.ref (C 17)) = true
  xb_17 : PySem.W.subIn K (.ref (C 17)) (.type "BaseException") = some true
  xt_17 : PySem.W.typeIn K (.ref (C 17)) = some (.type "type")
  xx_18 : PySem.W.excIn K (C 18) [.type "ValueError", .type "Exception", .type "BaseException", .type "object"] "ValueError.__new__" = true
  xk_18 : PySem.W.keepIn K (.ref (C 18)) = true
  xb_18 : PySem.W.subIn K (.ref (C 18)) (.type "BaseException") = some true
  xt_18 : PySem.W.typeIn K (.ref (C 18)) = some (.type "type")
  xx_19 : PySem.W.excIn K (C 19) [.type "ValueError", .type "Exception", .type "BaseException", .type "object"] "ValueError.__new__" = true
  xk_19 : PySem.W.keepIn K (.ref (C 19)) = true
  xb_19 : PySem.W.subIn K (.ref (C 19)) (.type "BaseException") = some true
  xt_19 : PySem.W.typeIn K (.ref (C 19)) = some (.type "type")
  xx_20 : PySem.W.excIn K (C 20) [.type "ValueError", .type "Exception", .type "BaseException", .type "object"] "ValueError.__new__" = true
  xk_20 : PySem.W.keepIn K (.ref (C 20)) = true
  xb_20 : PySem.W.subIn K (.ref (C 20)) (.type "BaseException") = some true
  xt_20 : PySem.W.typeIn K (.ref (C 20)) = some (.type "type")
  cat : ∀ c b, catE c = some b → PySem.W.exmOne K (.ref (C c)) (.ref (C 10)) = some b
  isx : ∀ c, catE c = some true → ExcC K (C c)
  isy_11 : ∀ c, catE c = some true → PySem.W.kitOne K (.ref (C c)) (.ref (C 11)) = some (decide (c = 11))
  isy_12 : ∀ c, catE c = some true → PySem.W.kitOne K (.ref (C c)) (.ref (C 12)) = some (decide (c = 12))
  isy_13 : ∀ c, catE c = some true → PySem.W.kitOne K (.ref (C c)) (.ref (C 13)) = some (decide (c = 13))
  isy_14 : ∀ c, catE c = some true → PySem.W.kitOne K (.ref (C c)) (.ref (C 14)) = some (decide (c = 14))
  isy_15 : ∀ c, catE c = some true → PySem.W.kitOne K (.ref (C c)) (.ref (C 15)) = some (decide (c = 15))
  isy_16 : ∀ c, catE c = some true → PySem.W.kitOne K (.ref (C c)) (.ref (C 16)) = some (decide (c = 16))
  isy_17 : ∀ c, catE c = some true → PySem.W.kitOne K (.ref (C c)) (.ref (C 17)) = some (decide (c = 17))
  isy_18 : ∀ c, catE c = some true → PySem.W.kitOne K (.ref (C c)) (.ref (C 18)) = some (decide (c = 18))
  isy_19 : ∀ c, catE c = some true → PySem.W.kitOne K (.ref (C c)) (.ref (C 19)) = some (decide (c = 19))
  isy_20 : ∀ c, catE c = some true → PySem.W.kitOne K (.ref (C c)) (.ref (C 20)) = some (decide (c = 20))
  isv : ∀ c, catE c = some true → PySem.W.kitOne K (.ref (C c)) (.type "ValueError") = some true
  isc_1 : ∀ c b, subOf 1 c = some b → InsOk K (C c) ∧ PySem.W.kitOne K (.ref (C c)) (.ref (C 1)) = some b
  isc_2 : ∀ c b, subOf 2 c = some b → InsOk K (C c) ∧ PySem.W.kitOne K (.ref (C c)) (.ref (C 2)) = some b
  isc_3 : ∀ c b, subOf 3 c = some b → InsOk K (C c) ∧ PySem.W.kitOne K (.ref (C c)) (.ref (C 3)) = some b
  isc_4 : ∀ c b, subOf 4 c = some b → InsOk K (C c) ∧ PySem.W.kitOne K (.ref (C c)) (.ref (C 4)) = some b
  mk0_3 : Mk0 K (C 3)
  wg_SIZES : mg "SIZES" = some (.ref (C 30))
  wd_SIZES : WDct pr K (C 30) tab_SIZES
  nb_ValueError : mg "ValueError" = none
  nb_abs : mg "abs" = none
  nb_all : mg "all" = none
  nb_bool : mg "bool" = none
  nb_enumerate : mg "enumerate" = none
  nb_int : mg "int" = none
  nb_isinstance : mg "isinstance" = none
  nb_len : mg "len" = none
  nb_list : mg "list" = none
  nb_max : mg "max" = none
  nb_min : mg "min" = none
  nb_range : mg "range" = none
  nb_str : mg "str" = none
  nb_sum : mg "sum" = none
  nb_tuple : mg "tuple" = none
  nb_zip : mg "zip" = none
  c_LONGEST : ∃ t, mg "LONGEST" = some (.int 200 t)
  c_MOST_LIFE : ∃ t, mg "MOST_LIFE" = some (.int 4 t)
  c_MOST_MARKS : ∃ t, mg "MOST_MARKS" = some (.int 16 t)
  c_MOST_SAID : ∃ t, mg "MOST_SAID" = some (.int 60 t)
  c_MOST_WINDOW : ∃ t, mg "MOST_WINDOW" = some (.int 3 t)
  c_MOST_WORD : ∃ t, mg "MOST_WORD" = some (.int 99 t)
variable {P : Program} {w : World} {K : PySem.W.Frag} {mg : Str → Option Value} {C A : Nat → Addr} {fd : Nat → FuncData} {base : Heap} {cc : Addr} {cv : Option (Option V)}
theorem sc_is_whole : FnScope N_is_whole ["thing"] (defScope s_is_whole) := ⟨rfl, rfl, rfl, by decide +kernel, rfl, by decide +kernel, by decide +kernel⟩
def F_is_whole : FSt := (fRet (fAndV (fIsi "int" (fVar 0)) (fNotV (fIsi "bool" (fVar 0)))))
def B_is_whole : Fn := runB 1 1 F_is_whole
theorem okB_is_whole (T : Tx w.params K mg C A fd) : FnV (gm K C cc cv) P w K mg base 1 (A 0) (fd 0) ["thing"] B_is_whole := by
  exact fnV_of rfl T.f_is_whole sc_is_whole (fun cdv A' outer s H E hr tk hp =>
    (sss_one (ss_ret (se_and (se_isi "int" rfl (by rfl) T.nb_isinstance (by rfl) T.nb_int bb_int (he := (se_var 0))) (se_one (se_not (se_isi "bool" rfl (by rfl) T.nb_isinstance (by rfl) T.nb_bool bb_bool (he := (se_var 0)))))))))
theorem sc_asked_bounds : FnScope N_asked_bounds ["marks", "window", "life"] (defScope s_asked_bounds) := ⟨rfl, rfl, rfl, by decide +kernel, rfl, by decide +kernel, by decide +kernel⟩
def F_asked_bounds : FSt := (fSeq (fIfS (fOrT (fNotT (fB (fCall B_is_whole [(fVar 0)]))) (fNotT (fB (fChain gLe gLe (fC (.int 1)) (fVar 0) (fC (.int 16)))))) (fRaise 11) fNil)
    (fSeq (fIfS (fOrT (fNotT (fB (fCall B_is_whole [(fVar 1)]))) (fNotT (fB (fChain gLe gLe (fC (.int 1)) (fVar 1) (fC (.int 3)))))) (fRaise 12) fNil)
    (fIfS (fOrT (fNotT (fB (fCall B_is_whole [(fVar 2)]))) (fNotT (fB (fChain gLe gLe (fC (.int 1)) (fVar 2) (fC (.int 4)))))) (fRaise 13) fNil)))
def B_asked_bounds : Fn := runB 3 3 F_asked_bounds
theorem okB_asked_bounds (T : Tx w.params K mg C A fd) : FnV (gm K C cc cv) P w K mg base 2 (A 1) (fd 1) ["marks", "window", "life"] B_asked_bounds := by
  have okB_is_whole := okB_is_whole (P := P) (w := w) (base := base) (cc := cc) (cv := cv) T
  exact fnV_of rfl T.f_asked_bounds sc_asked_bounds (fun cdv A' outer s H E hr tk hp =>
    (sss_cons (ss_if (PW.pt (sw_or (st_not (st_val (se_call okB_is_whole (hr.mono (by decide)) (by rfl) T.g_is_whole T.f_is_whole.kp T.b_is_whole tk (sa_cons (se_var 0) sa_nil)))) (sw_or1 (st_not (st_chain op_le (sim_rel _) op_le (sim_rel _) se_int (se_var 0) (se_globI (by rfl) T.c_MOST_MARKS.choose_spec)))))) (sss_one (ss_raise 11 rfl tk T.xx_11 T.gc_11 T.xk_11 (raises_own T.xb_11 T.xt_11) (by rfl))) sss_nil)
      (sss_cons (ss_if (PW.pt (sw_or (st_not (st_val (se_call okB_is_whole (hr.mono (by decide)) (by rfl) T.g_is_whole T.f_is_whole.kp T.b_is_whole tk (sa_cons (se_var 1) sa_nil)))) (sw_or1 (st_not (st_chain op_le (sim_rel _) op_le (sim_rel _) se_int (se_var 1) (se_globI (by rfl) T.c_MOST_WINDOW.choose_spec)))))) (sss_one (ss_raise 12 rfl tk T.xx_12 T.gc_12 T.xk_12 (raises_own T.xb_12 T.xt_12) (by rfl))) sss_nil)
      (sss_one (ss_if (PW.pt (sw_or (st_not (st_val (se_call okB_is_whole (hr.mono (by decide)) (by rfl) T.g_is_whole T.f_is_whole.kp T.b_is_whole tk (sa_cons (se_var 2) sa_nil)))) (sw_or1 (st_not (st_chain op_le (sim_rel _) op_le (sim_rel _) se_int (se_var 2) (se_globI (by rfl) T.c_MOST_LIFE.choose_spec)))))) (sss_one (ss_raise 13 rfl tk T.xx_13 T.gc_13 T.xk_13 (raises_own T.xb_13 T.xt_13) (by rfl))) sss_nil)))))
theorem sc_Talk_init : FnScope N_Talk_init ["self", "marks", "window", "life"] (defScope s_Talk_init) := ⟨rfl, rfl, rfl, by decide +kernel, rfl, by decide +kernel, by decide +kernel⟩
def F_Talk_init : FSt := (fSeq (fDo (fCall B_asked_bounds [(fVar 1), (fVar 2), (fVar 3)]))
    (fSeq (fSetF 0 0 (fVar 0) (fVar 1))
    (fSeq (fSetF 0 1 (fVar 0) (fVar 2))
    (fSeq (fSetF 0 2 (fVar 0) (fVar 3))
    (fSeq (fSetF 0 3 (fVar 0) (fLst []))
    (fSeq (fSetF 0 4 (fVar 0) (fC (.int 0)))
    (fSeq (fSetF 0 5 (fVar 0) (fLst []))
    (fSeq (fSetF 0 6 (fVar 0) fDnew)
    (fSeq (fSetF 0 7 (fVar 0) (fLst [(fLst []), (fLst [])]))
    (fSeq (fSetF 0 8 (fVar 0) (fLst [(fC (.bl true)), (fC (.bl true))]))
    (fSeq (fSetF 0 9 (fVar 0) (fC (.int 0)))
    (fSetF 0 10 (fVar 0) (fUn gNeg (fC (.int 1)))))))))))))))
def B_Talk_init : Fn := runB 4 4 F_Talk_init
theorem okB_Talk_init (T : Tx w.params K mg C A fd) : FnV (gm K C cc cv) P w K mg base 3 (A 2) (fd 2) ["self", "marks", "window", "life"] B_Talk_init := by
  have okB_asked_bounds := okB_asked_bounds (P := P) (w := w) (base := base) (cc := cc) (cv := cv) T
  exact fnV_of rfl T.f_Talk_init sc_Talk_init (fun cdv A' outer s H E hr tk hp =>
    (sss_cons (ss_expr (se_call okB_asked_bounds (hr.mono (by decide)) (by rfl) T.g_asked_bounds T.f_asked_bounds.kp T.b_asked_bounds tk (sa_cons (se_var 1) (sa_cons (se_var 2) (sa_cons (se_var 3) sa_nil)))))
      (sss_cons (ss_setF 0 0 T.cl_0 T.na_0_marks rfl rfl (se_var 0) (se_var 1))
      (sss_cons (ss_setF 0 1 T.cl_0 T.na_0_window rfl rfl (se_var 0) (se_var 2))
      (sss_cons (ss_setF 0 2 T.cl_0 T.na_0_life rfl rfl (se_var 0) (se_var 3))
      (sss_cons (ss_setF 0 3 T.cl_0 T.na_0_said rfl rfl (se_var 0) (se_lst sa_nil))
      (sss_cons (ss_setF 0 4 T.cl_0 T.na_0_known rfl rfl (se_var 0) se_int)
      (sss_cons (ss_setF 0 5 T.cl_0 T.na_0_heard rfl rfl (se_var 0) (se_lst sa_nil))
      (sss_cons (ss_setF 0 6 T.cl_0 T.na_0_early rfl rfl (se_var 0) se_dnew)
      (sss_cons (ss_setF 0 7 T.cl_0 T.na_0_roads rfl rfl (se_var 0) (se_lst (sa_cons (se_lst sa_nil) (sa_cons (se_lst sa_nil) sa_nil))))
      (sss_cons (ss_setF 0 8 T.cl_0 T.na_0_stands rfl rfl (se_var 0) (se_lst (sa_cons se_bl (sa_cons se_bl sa_nil))))
      (sss_cons (ss_setF 0 9 T.cl_0 T.na_0_now rfl rfl (se_var 0) se_int)
      (sss_one (ss_setF 0 10 T.cl_0 T.na_0_last rfl rfl (se_var 0) (se_un un_neg sim_neg se_int)))))))))))))))
theorem sc_Talk_ask_porch : FnScope N_Talk_ask_porch ["self", "porch"] (defScope s_Talk_ask_porch) := ⟨rfl, rfl, rfl, by decide +kernel, rfl, by decide +kernel, by decide +kernel⟩
def F_Talk_ask_porch : FSt := (fIfS (fOrT (fNotT (fB (fCall B_is_whole [(fVar 1)]))) (fB (fBin (gIn true) (fVar 1) (fTup [(fC (.int 0)), (fC (.int 1))])))) (fRaise 15) fNil)
def B_Talk_ask_porch : Fn := runB 2 2 F_Talk_ask_porch
theorem okB_Talk_ask_porch (T : Tx w.params K mg C A fd) : FnV (gm K C cc cv) P w K mg base 2 (A 3) (fd 3) ["self", "porch"] B_Talk_ask_porch := by
  have okB_is_whole := okB_is_whole (P := P) (w := w) (base := base) (cc := cc) (cv := cv) T
  exact fnV_of rfl T.f_Talk_ask_porch sc_Talk_ask_porch (fun cdv A' outer s H E hr tk hp =>
    (sss_one (ss_if (PW.pt (sw_or (st_not (st_val (se_call okB_is_whole (hr.mono (by decide)) (by rfl) T.g_is_whole T.f_is_whole.kp T.b_is_whole tk (sa_cons (se_var 1) sa_nil)))) (sw_or1 (st_cmp op_notIn_seq (sim_in true) (se_var 1) (se_tup (sa_cons se_int (sa_cons se_int sa_nil))))))) (sss_one (ss_raise 15 rfl tk T.xx_15 T.gc_15 T.xk_15 (raises_own T.xb_15 T.xt_15) (by rfl))) sss_nil)))
theorem sc_Talk_say : FnScope N_Talk_say ["self", "word"] (defScope s_Talk_say) := ⟨rfl, rfl, rfl, by decide +kernel, rfl, by decide +kernel, by decide +kernel⟩
def F_Talk_say : FSt := (fSeq (fIfS (fOrT (fNotT (fB (fCall B_is_whole [(fVar 1)]))) (fNotT (fB (fChain gLe gLe (fC (.int 0)) (fVar 1) (fC (.int 99)))))) (fRaise 14) fNil)
    (fSeq (fIfS (fOrT (fB (fBin gGe (fBin gSub (fCB gLen [(fFld 0 3 (fVar 0))]) (fFld 0 4 (fVar 0))) (fFld 0 1 (fVar 0)))) (fOrT (fB (fBin gEq (fFld 0 10 (fVar 0)) (fFld 0 9 (fVar 0)))) (fB (fBin gGe (fCB gLen [(fFld 0 3 (fVar 0))]) (fC (.int 60)))))) (fRaise 19) fNil)
    (fSeq (fDo (fLM gApp (fFld 0 3 (fVar 0)) [(fVar 1)]))
    (fSeq (fSetF 0 10 (fVar 0) (fFld 0 9 (fVar 0)))
    (fRet (fBin gSub (fCB gLen [(fFld 0 3 (fVar 0))]) (fC (.int 1))))))))
def B_Talk_say : Fn := runB 2 2 F_Talk_say
theorem okB_Talk_say (T : Tx w.params K mg C A fd) : FnV (gm K C cc cv) P w K mg base 2 (A 4) (fd 4) ["self", "word"] B_Talk_say := by
  have okB_is_whole := okB_is_whole (P := P) (w := w) (base := base) (cc := cc) (cv := cv) T
  exact fnV_of rfl T.f_Talk_say sc_Talk_say (fun cdv A' outer s H E hr tk hp =>
    (sss_cons (ss_if (PW.pt (sw_or (st_not (st_val (se_call okB_is_whole (hr.mono (by decide)) (by rfl) T.g_is_whole T.f_is_whole.kp T.b_is_whole tk (sa_cons (se_var 1) sa_nil)))) (sw_or1 (st_not (st_chain op_le (sim_rel _) op_le (sim_rel _) se_int (se_var 1) (se_globI (by rfl) T.c_MOST_WORD.choose_spec)))))) (sss_one (ss_raise 14 rfl tk T.xx_14 T.gc_14 T.xk_14 (raises_own T.xb_14 T.xt_14) (by rfl))) sss_nil)
      (sss_cons (ss_if (PW.pt (sw_or (st_cmp op_ge (sim_rel _) (se_op op_sub sim_sub (se_cb cr_lenW sim_len (by rfl) T.nb_len bb_len (sa_cons (se_fld 0 3 T.cl_0 T.na_0_said rfl rfl (se_var 0)) sa_nil)) (se_fld 0 4 T.cl_0 T.na_0_known rfl rfl (se_var 0))) (se_fld 0 1 T.cl_0 T.na_0_window rfl rfl (se_var 0))) (sw_or (st_cmp (op_eqD hr.units) sim_eq (se_fld 0 10 T.cl_0 T.na_0_last rfl rfl (se_var 0)) (se_fld 0 9 T.cl_0 T.na_0_now rfl rfl (se_var 0))) (sw_or1 (st_cmp op_ge (sim_rel _) (se_cb cr_lenW sim_len (by rfl) T.nb_len bb_len (sa_cons (se_fld 0 3 T.cl_0 T.na_0_said rfl rfl (se_var 0)) sa_nil)) (se_globI (by rfl) T.c_MOST_SAID.choose_spec)))))) (sss_one (ss_raise 19 rfl tk T.xx_19 T.gc_19 T.xk_19 (raises_own T.xb_19 T.xt_19) (by rfl))) sss_nil)
      (sss_cons (ss_expr (se_lm PySem.F.slot_list_append PySem.F.type_list_append mt_append sim_app rfl (se_fld 0 3 T.cl_0 T.na_0_said rfl rfl (se_var 0)) (sa_cons (se_var 1) sa_nil)))
      (sss_cons (ss_setF 0 10 T.cl_0 T.na_0_last rfl rfl (se_var 0) (se_fld 0 9 T.cl_0 T.na_0_now rfl rfl (se_var 0)))
      (sss_one (ss_ret (se_op op_sub sim_sub (se_cb cr_lenW sim_len (by rfl) T.nb_len bb_len (sa_cons (se_fld 0 3 T.cl_0 T.na_0_said rfl rfl (se_var 0)) sa_nil)) se_int))))))))
theorem sc_Talk_put_on : FnScope N_Talk_put_on ["self", "porch", "letter"] (defScope s_Talk_put_on) := ⟨rfl, rfl, rfl, by decide +kernel, rfl, by decide +kernel, by decide +kernel⟩
def F_Talk_put_on : FSt := (fSeq (fIfS (fNotT (fB (fBin gIx (fFld 0 8 (fVar 0)) (fVar 1)))) (fRaise 20) fNil)
    (fSeq (fDo (fLM gApp (fBin gIx (fFld 0 7 (fVar 0)) (fVar 1)) [(fTup [(fVar 2), (fFld 0 9 (fVar 0))])]))
    (fRet (fBin gSub (fCB gLen [(fBin gIx (fFld 0 7 (fVar 0)) (fVar 1))]) (fC (.int 1))))))
def B_Talk_put_on : Fn := runB 3 3 F_Talk_put_on
theorem okB_Talk_put_on (T : Tx w.params K mg C A fd) : FnV (gm K C cc cv) P w K mg base 1 (A 5) (fd 5) ["self", "porch", "letter"] B_Talk_put_on := by
  exact fnV_of rfl T.f_Talk_put_on sc_Talk_put_on (fun cdv A' outer s H E hr tk hp =>
    (sss_cons (ss_if (st_not (st_val (se_ix ix_w sim_ix (se_fld 0 8 T.cl_0 T.na_0_stands rfl rfl (se_var 0)) (se_var 1)))) (sss_one (ss_raise 20 rfl tk T.xx_20 T.gc_20 T.xk_20 (raises_own T.xb_20 T.xt_20) (by rfl))) sss_nil)
      (sss_cons (ss_expr (se_lm PySem.F.slot_list_append PySem.F.type_list_append mt_append sim_app rfl (se_ix ix_w sim_ix (se_fld 0 7 T.cl_0 T.na_0_roads rfl rfl (se_var 0)) (se_var 1)) (sa_cons (se_tup (sa_cons (se_var 2) (sa_cons (se_fld 0 9 T.cl_0 T.na_0_now rfl rfl (se_var 0)) sa_nil))) sa_nil)))
      (sss_one (ss_ret (se_op op_sub sim_sub (se_cb cr_lenW sim_len (by rfl) T.nb_len bb_len (sa_cons (se_ix ix_w sim_ix (se_fld 0 7 T.cl_0 T.na_0_roads rfl rfl (se_var 0)) (se_var 1)) sa_nil)) se_int))))))
theorem sc_Talk_post : FnScope N_Talk_post ["self", "porch", "number"] (defScope s_Talk_post) := ⟨rfl, rfl, rfl, by decide +kernel, rfl, by decide +kernel, by decide +kernel⟩
def F_Talk_post : FSt := (fSeq (fDo (fMeth 0 B_Talk_ask_porch (fVar 0) [(fVar 1)]))
    (fSeq (fIfS (fOrT (fNotT (fB (fCall B_is_whole [(fVar 2)]))) (fNotT (fB (fChain gLe gLt (fFld 0 4 (fVar 0)) (fVar 2) (fCB gLen [(fFld 0 3 (fVar 0))]))))) (fRaise 16) fNil)
    (fRet (fMeth 0 B_Talk_put_on (fVar 0) [(fVar 1), (fTup [(fC (.str "letter")), (fBin gMod (fVar 2) (fFld 0 0 (fVar 0))), (fBin gIx (fFld 0 3 (fVar 0)) (fVar 2))])]))))
def B_Talk_post : Fn := runB 3 3 F_Talk_post
theorem okB_Talk_post (T : Tx w.params K mg C A fd) : FnV (gm K C cc cv) P w K mg base 3 (A 6) (fd 6) ["self", "porch", "number"] B_Talk_post := by
  have okB_Talk_ask_porch := okB_Talk_ask_porch (P := P) (w := w) (base := base) (cc := cc) (cv := cv) T
  have okB_Talk_put_on := okB_Talk_put_on (P := P) (w := w) (base := base) (cc := cc) (cv := cv) T
  have okB_is_whole := okB_is_whole (P := P) (w := w) (base := base) (cc := cc) (cv := cv) T
  exact fnV_of rfl T.f_Talk_post sc_Talk_post (fun cdv A' outer s H E hr tk hp =>
    (sss_cons (ss_expr (se_meth 0 (se_var 0) T.cl_0 T.m_Talk_ask_porch (show ("ask_porch" : Str) ∉ flOf 0 by decide +kernel) okB_Talk_ask_porch (hr.mono (by decide)) T.b_Talk_ask_porch tk (sa_cons (se_var 1) sa_nil)))
      (sss_cons (ss_if (PW.pt (sw_or (st_not (st_val (se_call okB_is_whole (hr.mono (by decide)) (by rfl) T.g_is_whole T.f_is_whole.kp T.b_is_whole tk (sa_cons (se_var 2) sa_nil)))) (sw_or1 (st_not (st_chain op_le (sim_rel _) op_lt (sim_rel _) (se_fld 0 4 T.cl_0 T.na_0_known rfl rfl (se_var 0)) (se_var 2) (se_cb cr_lenW sim_len (by rfl) T.nb_len bb_len (sa_cons (se_fld 0 3 T.cl_0 T.na_0_said rfl rfl (se_var 0)) sa_nil))))))) (sss_one (ss_raise 16 rfl tk T.xx_16 T.gc_16 T.xk_16 (raises_own T.xb_16 T.xt_16) (by rfl))) sss_nil)
      (sss_one (ss_ret (se_meth 0 (se_var 0) T.cl_0 T.m_Talk_put_on (show ("put_on" : Str) ∉ flOf 0 by decide +kernel) okB_Talk_put_on (hr.mono (by decide)) T.b_Talk_put_on tk (sa_cons (se_var 1) (sa_cons (se_tup (sa_cons se_str (sa_cons (se_op op_mod sim_mod (se_var 2) (se_fld 0 0 T.cl_0 T.na_0_marks rfl rfl (se_var 0))) (sa_cons (se_ix ix_w sim_ix (se_fld 0 3 T.cl_0 T.na_0_said rfl rfl (se_var 0)) (se_var 2)) sa_nil)))) sa_nil))))))))
theorem sc_Talk_answer : FnScope N_Talk_answer ["self", "porch"] (defScope s_Talk_answer) := ⟨rfl, rfl, rfl, by decide +kernel, rfl, by decide +kernel, by decide +kernel⟩
def F_Talk_answer : FSt := (fSeq (fDo (fMeth 0 B_Talk_ask_porch (fVar 0) [(fVar 1)]))
    (fRet (fMeth 0 B_Talk_put_on (fVar 0) [(fVar 1), (fTup [(fC (.str "answer")), (fBin gMod (fCB gLen [(fFld 0 5 (fVar 0))]) (fFld 0 0 (fVar 0)))])])))
def B_Talk_answer : Fn := runB 2 2 F_Talk_answer
theorem okB_Talk_answer (T : Tx w.params K mg C A fd) : FnV (gm K C cc cv) P w K mg base 3 (A 7) (fd 7) ["self", "porch"] B_Talk_answer := by
  have okB_Talk_ask_porch := okB_Talk_ask_porch (P := P) (w := w) (base := base) (cc := cc) (cv := cv) T
  have okB_Talk_put_on := okB_Talk_put_on (P := P) (w := w) (base := base) (cc := cc) (cv := cv) T
  exact fnV_of rfl T.f_Talk_answer sc_Talk_answer (fun cdv A' outer s H E hr tk hp =>
    (sss_cons (ss_expr (se_meth 0 (se_var 0) T.cl_0 T.m_Talk_ask_porch (show ("ask_porch" : Str) ∉ flOf 0 by decide +kernel) okB_Talk_ask_porch (hr.mono (by decide)) T.b_Talk_ask_porch tk (sa_cons (se_var 1) sa_nil)))
      (sss_one (ss_ret (se_meth 0 (se_var 0) T.cl_0 T.m_Talk_put_on (show ("put_on" : Str) ∉ flOf 0 by decide +kernel) okB_Talk_put_on (hr.mono (by decide)) T.b_Talk_put_on tk (sa_cons (se_var 1) (sa_cons (se_tup (sa_cons se_str (sa_cons (se_op op_mod sim_mod (se_cb cr_lenW sim_len (by rfl) T.nb_len bb_len (sa_cons (se_fld 0 5 T.cl_0 T.na_0_heard rfl rfl (se_var 0)) sa_nil)) (se_fld 0 0 T.cl_0 T.na_0_marks rfl rfl (se_var 0))) sa_nil))) sa_nil)))))))
theorem sc_Talk_take_off : FnScope N_Talk_take_off ["self", "porch", "place"] (defScope s_Talk_take_off) := ⟨rfl, rfl, rfl, by decide +kernel, rfl, by decide +kernel, by decide +kernel⟩
def F_Talk_take_off : FSt := (fSeq (fDo (fMeth 0 B_Talk_ask_porch (fVar 0) [(fVar 1)]))
    (fSeq (fIfS (fOrT (fNotT (fB (fCall B_is_whole [(fVar 2)]))) (fNotT (fB (fChain gLe gLt (fC (.int 0)) (fVar 2) (fCB gLen [(fBin gIx (fFld 0 7 (fVar 0)) (fVar 1))]))))) (fRaise 17) fNil)
    (fRet (fBin gIx (fLM gPopAt (fBin gIx (fFld 0 7 (fVar 0)) (fVar 1)) [(fVar 2)]) (fC (.int 0))))))
def B_Talk_take_off : Fn := runB 3 3 F_Talk_take_off
theorem okB_Talk_take_off (T : Tx w.params K mg C A fd) : FnV (gm K C cc cv) P w K mg base 3 (A 8) (fd 8) ["self", "porch", "place"] B_Talk_take_off := by
  have okB_Talk_ask_porch := okB_Talk_ask_porch (P := P) (w := w) (base := base) (cc := cc) (cv := cv) T
  have okB_is_whole := okB_is_whole (P := P) (w := w) (base := base) (cc := cc) (cv := cv) T
  exact fnV_of rfl T.f_Talk_take_off sc_Talk_take_off (fun cdv A' outer s H E hr tk hp =>
    (sss_cons (ss_expr (se_meth 0 (se_var 0) T.cl_0 T.m_Talk_ask_porch (show ("ask_porch" : Str) ∉ flOf 0 by decide +kernel) okB_Talk_ask_porch (hr.mono (by decide)) T.b_Talk_ask_porch tk (sa_cons (se_var 1) sa_nil)))
      (sss_cons (ss_if (PW.pt (sw_or (st_not (st_val (se_call okB_is_whole (hr.mono (by decide)) (by rfl) T.g_is_whole T.f_is_whole.kp T.b_is_whole tk (sa_cons (se_var 2) sa_nil)))) (sw_or1 (st_not (st_chain op_le (sim_rel _) op_lt (sim_rel _) se_int (se_var 2) (se_cb cr_lenW sim_len (by rfl) T.nb_len bb_len (sa_cons (se_ix ix_w sim_ix (se_fld 0 7 T.cl_0 T.na_0_roads rfl rfl (se_var 0)) (se_var 1)) sa_nil))))))) (sss_one (ss_raise 17 rfl tk T.xx_17 T.gc_17 T.xk_17 (raises_own T.xb_17 T.xt_17) (by rfl))) sss_nil)
      (sss_one (ss_ret (se_ix ix_w sim_ix (se_lm PySem.F.slot_list_pop PySem.F.type_list_pop mt_popAt sim_popAt rfl (se_ix ix_w sim_ix (se_fld 0 7 T.cl_0 T.na_0_roads rfl rfl (se_var 0)) (se_var 1)) (sa_cons (se_var 2) sa_nil)) se_int))))))
theorem sc_Talk_bring : FnScope N_Talk_bring ["self", "porch", "place"] (defScope s_Talk_bring) := ⟨rfl, rfl, rfl, by decide +kernel, rfl, by decide +kernel, by decide +kernel⟩
def F_Talk_bring : FSt := (fSeq (fSet 3 (fMeth 0 B_Talk_take_off (fVar 0) [(fVar 1), (fVar 2)]))
    (fSeq (fIfS (fB (fBin gEq (fBin gIx (fVar 3) (fC (.int 0))) (fC (.str "answer")))) (fSeq (fSet 4 (fBin gMod (fBin gSub (fBin gIx (fVar 3) (fC (.int 1))) (fFld 0 4 (fVar 0))) (fFld 0 0 (fVar 0))))
    (fSeq (fSet 5 (fBin gLe (fVar 4) (fBin gSub (fCB gLen [(fFld 0 3 (fVar 0))]) (fFld 0 4 (fVar 0)))))
    (fSeq (fSetF 0 4 (fVar 0) (fBin gAdd (fFld 0 4 (fVar 0)) (fIf (fB (fVar 5)) (fVar 4) (fC (.int 0)))))
    (fRet (fVar 5))))) fNil)
    (fSeq (fSet 4 (fBin gMod (fBin gSub (fBin gIx (fVar 3) (fC (.int 1))) (fCB gLen [(fFld 0 5 (fVar 0))])) (fFld 0 0 (fVar 0))))
    (fSeq (fIfS (fB (fBin gGe (fVar 4) (fFld 0 1 (fVar 0)))) (fRet (fC (.bl false))) fNil)
    (fSeq (fSet 6 (fBin gAdd (fCB gLen [(fFld 0 5 (fVar 0))]) (fVar 4)))
    (fSeq (fSet 5 (fDin true (fVar 6) (fFld 0 6 (fVar 0))))
    (fSeq (fIfS (fB (fVar 5)) (fSetD (fFld 0 6 (fVar 0)) (fVar 6) (fBin gIx (fVar 3) (fC (.int 2)))) fNil)
    (fSeq (fWhile fuelW (fB (fDin false (fCB gLen [(fFld 0 5 (fVar 0))]) (fFld 0 6 (fVar 0)))) (fDo (fLM gApp (fFld 0 5 (fVar 0)) [(fDpop (fFld 0 6 (fVar 0)) (fCB gLen [(fFld 0 5 (fVar 0))]))])))
    (fRet (fVar 5))))))))))
def B_Talk_bring : Fn := runB 7 3 F_Talk_bring
theorem okB_Talk_bring (T : Tx w.params K mg C A fd) : FnV (gm K C cc cv) P w K mg base 4 (A 9) (fd 9) ["self", "porch", "place"] B_Talk_bring := by
  have okB_Talk_take_off := okB_Talk_take_off (P := P) (w := w) (base := base) (cc := cc) (cv := cv) T
  exact fnV_of rfl T.f_Talk_bring sc_Talk_bring (fun cdv A' outer s H E hr tk hp =>
    (sss_cons (ss_set 3 sc_Talk_bring.nd (se_meth 0 (se_var 0) T.cl_0 T.m_Talk_take_off (show ("take_off" : Str) ∉ flOf 0 by decide +kernel) okB_Talk_take_off (hr.mono (by decide)) T.b_Talk_take_off tk (sa_cons (se_var 1) (sa_cons (se_var 2) sa_nil))))
      (sss_cons (ss_if (st_cmp (op_eqD hr.units) sim_eq (se_ix ix_w sim_ix (se_var 3) se_int) se_str) (sss_cons (ss_set 4 sc_Talk_bring.nd (se_op op_mod sim_mod (se_op op_sub sim_sub (se_ix ix_w sim_ix (se_var 3) se_int) (se_fld 0 4 T.cl_0 T.na_0_known rfl rfl (se_var 0))) (se_fld 0 0 T.cl_0 T.na_0_marks rfl rfl (se_var 0))))
      (sss_cons (ss_set 5 sc_Talk_bring.nd (se_cmp op_le (sim_rel _) (se_var 4) (se_op op_sub sim_sub (se_cb cr_lenW sim_len (by rfl) T.nb_len bb_len (sa_cons (se_fld 0 3 T.cl_0 T.na_0_said rfl rfl (se_var 0)) sa_nil)) (se_fld 0 4 T.cl_0 T.na_0_known rfl rfl (se_var 0)))))
      (sss_cons (ss_setF 0 4 T.cl_0 T.na_0_known rfl rfl (se_var 0) (se_op op_addW sim_add (se_fld 0 4 T.cl_0 T.na_0_known rfl rfl (se_var 0)) (se_if (st_val (se_var 5)) (se_var 4) se_int)))
      (sss_one (ss_ret (se_var 5)))))) sss_nil)
      (sss_cons (ss_set 4 sc_Talk_bring.nd (se_op op_mod sim_mod (se_op op_sub sim_sub (se_ix ix_w sim_ix (se_var 3) se_int) (se_cb cr_lenW sim_len (by rfl) T.nb_len bb_len (sa_cons (se_fld 0 5 T.cl_0 T.na_0_heard rfl rfl (se_var 0)) sa_nil))) (se_fld 0 0 T.cl_0 T.na_0_marks rfl rfl (se_var 0))))
      (sss_cons (ss_if (st_cmp op_ge (sim_rel _) (se_var 4) (se_fld 0 1 T.cl_0 T.na_0_window rfl rfl (se_var 0))) (sss_one (ss_ret se_bl)) sss_nil)
      (sss_cons (ss_set 6 sc_Talk_bring.nd (se_op op_addW sim_add (se_cb cr_lenW sim_len (by rfl) T.nb_len bb_len (sa_cons (se_fld 0 5 T.cl_0 T.na_0_heard rfl rfl (se_var 0)) sa_nil)) (se_var 4)))
      (sss_cons (ss_set 5 sc_Talk_bring.nd (se_pc (Tw.pc_dnotin (hu_of hr) (se_var 6) (se_fld 0 6 T.cl_0 T.na_0_early rfl rfl (se_var 0)))))
      (sss_cons (ss_if (st_val (se_var 5)) (sss_one (ss_setD (hu_of hr) (se_fld 0 6 T.cl_0 T.na_0_early rfl rfl (se_var 0)) (se_var 6) (se_ix ix_w sim_ix (se_var 3) se_int))) sss_nil)
      (sss_cons (ss_while fuelW hp (st_pc (Tw.pc_din (hu_of hr) (se_cb cr_lenW sim_len (by rfl) T.nb_len bb_len (sa_cons (se_fld 0 5 T.cl_0 T.na_0_heard rfl rfl (se_var 0)) sa_nil)) (se_fld 0 6 T.cl_0 T.na_0_early rfl rfl (se_var 0)))) (sss_one (ss_expr (se_lm PySem.F.slot_list_append PySem.F.type_list_append mt_append sim_app rfl (se_fld 0 5 T.cl_0 T.na_0_heard rfl rfl (se_var 0)) (sa_cons (se_dpop (se_fld 0 6 T.cl_0 T.na_0_early rfl rfl (se_var 0)) (se_cb cr_lenW sim_len (by rfl) T.nb_len bb_len (sa_cons (se_fld 0 5 T.cl_0 T.na_0_heard rfl rfl (se_var 0)) sa_nil)) ⟨rfl, rfl, rfl, rfl⟩) sa_nil)))))
      (sss_one (ss_ret (se_var 5))))))))))))
theorem sc_Talk_lose : FnScope N_Talk_lose ["self", "porch", "place"] (defScope s_Talk_lose) := ⟨rfl, rfl, rfl, by decide +kernel, rfl, by decide +kernel, by decide +kernel⟩
def F_Talk_lose : FSt := (fSeq (fDo (fMeth 0 B_Talk_take_off (fVar 0) [(fVar 1), (fVar 2)]))
    (fRet (fCB gLen [(fBin gIx (fFld 0 7 (fVar 0)) (fVar 1))])))
def B_Talk_lose : Fn := runB 3 3 F_Talk_lose
theorem okB_Talk_lose (T : Tx w.params K mg C A fd) : FnV (gm K C cc cv) P w K mg base 4 (A 10) (fd 10) ["self", "porch", "place"] B_Talk_lose := by
  have okB_Talk_take_off := okB_Talk_take_off (P := P) (w := w) (base := base) (cc := cc) (cv := cv) T
  exact fnV_of rfl T.f_Talk_lose sc_Talk_lose (fun cdv A' outer s H E hr tk hp =>
    (sss_cons (ss_expr (se_meth 0 (se_var 0) T.cl_0 T.m_Talk_take_off (show ("take_off" : Str) ∉ flOf 0 by decide +kernel) okB_Talk_take_off (hr.mono (by decide)) T.b_Talk_take_off tk (sa_cons (se_var 1) (sa_cons (se_var 2) sa_nil))))
      (sss_one (ss_ret (se_cb cr_lenW sim_len (by rfl) T.nb_len bb_len (sa_cons (se_ix ix_w sim_ix (se_fld 0 7 T.cl_0 T.na_0_roads rfl rfl (se_var 0)) (se_var 1)) sa_nil))))))
theorem sc_Talk_fall : FnScope N_Talk_fall ["self", "porch"] (defScope s_Talk_fall) := ⟨rfl, rfl, rfl, by decide +kernel, rfl, by decide +kernel, by decide +kernel⟩
def F_Talk_fall : FSt := (fSeq (fDo (fMeth 0 B_Talk_ask_porch (fVar 0) [(fVar 1)]))
    (fSeq (fIfS (fNotT (fB (fBin gIx (fFld 0 8 (fVar 0)) (fVar 1)))) (fRaise 20) fNil)
    (fSeq (fSetL (fFld 0 8 (fVar 0)) (fVar 1) (fC (.bl false)))
    (fSeq (fSet 2 (fCB gLen [(fBin gIx (fFld 0 7 (fVar 0)) (fVar 1))]))
    (fSeq (fSetL (fFld 0 7 (fVar 0)) (fVar 1) (fLst []))
    (fRet (fVar 2)))))))
def B_Talk_fall : Fn := runB 3 2 F_Talk_fall
theorem okB_Talk_fall (T : Tx w.params K mg C A fd) : FnV (gm K C cc cv) P w K mg base 3 (A 11) (fd 11) ["self", "porch"] B_Talk_fall := by
  have okB_Talk_ask_porch := okB_Talk_ask_porch (P := P) (w := w) (base := base) (cc := cc) (cv := cv) T
  exact fnV_of rfl T.f_Talk_fall sc_Talk_fall (fun cdv A' outer s H E hr tk hp =>
    (sss_cons (ss_expr (se_meth 0 (se_var 0) T.cl_0 T.m_Talk_ask_porch (show ("ask_porch" : Str) ∉ flOf 0 by decide +kernel) okB_Talk_ask_porch (hr.mono (by decide)) T.b_Talk_ask_porch tk (sa_cons (se_var 1) sa_nil)))
      (sss_cons (ss_if (st_not (st_val (se_ix ix_w sim_ix (se_fld 0 8 T.cl_0 T.na_0_stands rfl rfl (se_var 0)) (se_var 1)))) (sss_one (ss_raise 20 rfl tk T.xx_20 T.gc_20 T.xk_20 (raises_own T.xb_20 T.xt_20) (by rfl))) sss_nil)
      (sss_cons (ss_setL (se_fld 0 8 T.cl_0 T.na_0_stands rfl rfl (se_var 0)) (se_var 1) se_bl)
      (sss_cons (ss_set 2 sc_Talk_fall.nd (se_cb cr_lenW sim_len (by rfl) T.nb_len bb_len (sa_cons (se_ix ix_w sim_ix (se_fld 0 7 T.cl_0 T.na_0_roads rfl rfl (se_var 0)) (se_var 1)) sa_nil)))
      (sss_cons (ss_setL (se_fld 0 7 T.cl_0 T.na_0_roads rfl rfl (se_var 0)) (se_var 1) (se_lst sa_nil))
      (sss_one (ss_ret (se_var 2)))))))))
theorem sc_Talk_rise : FnScope N_Talk_rise ["self", "porch"] (defScope s_Talk_rise) := ⟨rfl, rfl, rfl, by decide +kernel, rfl, by decide +kernel, by decide +kernel⟩
def F_Talk_rise : FSt := (fSeq (fDo (fMeth 0 B_Talk_ask_porch (fVar 0) [(fVar 1)]))
    (fSeq (fIfS (fB (fBin gIx (fFld 0 8 (fVar 0)) (fVar 1))) (fRaise 20) fNil)
    (fSetL (fFld 0 8 (fVar 0)) (fVar 1) (fC (.bl true)))))
def B_Talk_rise : Fn := runB 2 2 F_Talk_rise
theorem okB_Talk_rise (T : Tx w.params K mg C A fd) : FnV (gm K C cc cv) P w K mg base 3 (A 12) (fd 12) ["self", "porch"] B_Talk_rise := by
  have okB_Talk_ask_porch := okB_Talk_ask_porch (P := P) (w := w) (base := base) (cc := cc) (cv := cv) T
  exact fnV_of rfl T.f_Talk_rise sc_Talk_rise (fun cdv A' outer s H E hr tk hp =>
    (sss_cons (ss_expr (se_meth 0 (se_var 0) T.cl_0 T.m_Talk_ask_porch (show ("ask_porch" : Str) ∉ flOf 0 by decide +kernel) okB_Talk_ask_porch (hr.mono (by decide)) T.b_Talk_ask_porch tk (sa_cons (se_var 1) sa_nil)))
      (sss_cons (ss_if (st_val (se_ix ix_w sim_ix (se_fld 0 8 T.cl_0 T.na_0_stands rfl rfl (se_var 0)) (se_var 1))) (sss_one (ss_raise 20 rfl tk T.xx_20 T.gc_20 T.xk_20 (raises_own T.xb_20 T.xt_20) (by rfl))) sss_nil)
      (sss_one (ss_setL (se_fld 0 8 T.cl_0 T.na_0_stands rfl rfl (se_var 0)) (se_var 1) se_bl)))))
theorem sc_Talk_tick : FnScope N_Talk_tick ["self"] (defScope s_Talk_tick) := ⟨rfl, rfl, rfl, by decide +kernel, rfl, by decide +kernel, by decide +kernel⟩
def F_Talk_tick : FSt := (fSeq (fSetF 0 9 (fVar 0) (fBin gAdd (fFld 0 9 (fVar 0)) (fC (.int 1))))
    (fSeq (fSet 1 (fC (.int 0)))
    (fSeq (fFor (fIt (fTup [(fC (.int 0)), (fC (.int 1))])) (gtName 2) (fSeq (fSet 3 (fLc (fIl (fBin gIx (fFld 0 7 (fVar 0)) (fVar 2))) 4 [4] (fB (fBin gLt (fBin gSub (fFld 0 9 (fVar 0)) (fBin gIx (fVar 4) (fC (.int 1)))) (fFld 0 2 (fVar 0)))) (fVar 4)))
    (fSeq (fSet 1 (fBin gSub (fBin gAdd (fVar 1) (fCB gLen [(fBin gIx (fFld 0 7 (fVar 0)) (fVar 2))])) (fCB gLen [(fVar 3)])))
    (fSetL (fFld 0 7 (fVar 0)) (fVar 2) (fVar 3)))))
    (fRet (fVar 1)))))
def B_Talk_tick : Fn := runB 5 1 F_Talk_tick
theorem okB_Talk_tick (T : Tx w.params K mg C A fd) : FnV (gm K C cc cv) P w K mg base 1 (A 13) (fd 13) ["self"] B_Talk_tick := by
  exact fnV_of rfl T.f_Talk_tick sc_Talk_tick (fun cdv A' outer s H E hr tk hp =>
    (sss_cons (ss_setF 0 9 T.cl_0 T.na_0_now rfl rfl (se_var 0) (se_op op_addW sim_add (se_fld 0 9 T.cl_0 T.na_0_now rfl rfl (se_var 0)) se_int))
      (sss_cons (ss_set 1 sc_Talk_tick.nd se_int)
      (sss_cons (ss_for hp rfl (si_tup rfl (se_tup (sa_cons se_int (sa_cons se_int sa_nil)))) (pgn 2 sc_Talk_tick.nd) (sim_gname 2) (sss_cons (ss_setLc 3 rfl sc_Talk_tick.nd rfl rfl (sw_true rfl rfl rfl (by decide +kernel)) [("pair", 4)] rfl (si_list rfl (se_ix ix_w sim_ix (se_fld 0 7 T.cl_0 T.na_0_roads rfl rfl (se_var 0)) (se_var 2))) (blkOk_by (own := [("pair", 4)]) (N := N_Talk_tick) (sc := defScope s_Talk_tick) (by decide +kernel)) (by decide) (fun _ _ _ _ _ => pgn 4 sc_Talk_tick.nd) (fun _ _ _ _ _ => (sts_one (st_cmp op_lt (sim_rel _) (se_op op_sub sim_sub (se_fld 0 9 T.cl_0 T.na_0_now rfl rfl (se_var 0)) (se_ix ix_w sim_ix (se_var 4) se_int)) (se_fld 0 2 T.cl_0 T.na_0_life rfl rfl (se_var 0))))) (fun _ _ _ _ _ => (se_var 4)))
      (sss_cons (ss_set 1 sc_Talk_tick.nd (se_op op_sub sim_sub (se_op op_addW sim_add (se_var 1) (se_cb cr_lenW sim_len (by rfl) T.nb_len bb_len (sa_cons (se_ix ix_w sim_ix (se_fld 0 7 T.cl_0 T.na_0_roads rfl rfl (se_var 0)) (se_var 2)) sa_nil))) (se_cb cr_lenW sim_len (by rfl) T.nb_len bb_len (sa_cons (se_var 3) sa_nil))))
      (sss_one (ss_setL (se_fld 0 7 T.cl_0 T.na_0_roads rfl rfl (se_var 0)) (se_var 2) (se_var 3))))))
      (sss_one (ss_ret (se_var 1)))))))
theorem sc_Talk_words_heard : FnScope N_Talk_words_heard ["self"] (defScope s_Talk_words_heard) := ⟨rfl, rfl, rfl, by decide +kernel, rfl, by decide +kernel, by decide +kernel⟩
def F_Talk_words_heard : FSt := (fRet (fCB gListR [(fFld 0 5 (fVar 0))]))
def B_Talk_words_heard : Fn := runB 1 1 F_Talk_words_heard
theorem okB_Talk_words_heard (T : Tx w.params K mg C A fd) : FnV (gm K C cc cv) P w K mg base 1 (A 14) (fd 14) ["self"] B_Talk_words_heard := by
  exact fnV_of rfl T.f_Talk_words_heard sc_Talk_words_heard (fun cdv A' outer s H E hr tk hp =>
    (sss_one (ss_ret (se_ctF call_list_of sim_listR (by rfl) T.nb_list bb_list (sa_cons (se_fld 0 5 T.cl_0 T.na_0_heard rfl rfl (se_var 0)) sa_nil)))))
theorem sc_Talk_words_said : FnScope N_Talk_words_said ["self"] (defScope s_Talk_words_said) := ⟨rfl, rfl, rfl, by decide +kernel, rfl, by decide +kernel, by decide +kernel⟩
def F_Talk_words_said : FSt := (fRet (fCB gListR [(fFld 0 3 (fVar 0))]))
def B_Talk_words_said : Fn := runB 1 1 F_Talk_words_said
theorem okB_Talk_words_said (T : Tx w.params K mg C A fd) : FnV (gm K C cc cv) P w K mg base 1 (A 15) (fd 15) ["self"] B_Talk_words_said := by
  exact fnV_of rfl T.f_Talk_words_said sc_Talk_words_said (fun cdv A' outer s H E hr tk hp =>
    (sss_one (ss_ret (se_ctF call_list_of sim_listR (by rfl) T.nb_list bb_list (sa_cons (se_fld 0 3 T.cl_0 T.na_0_said rfl rfl (se_var 0)) sa_nil)))))
theorem sc_Talk_road : FnScope N_Talk_road ["self", "porch"] (defScope s_Talk_road) := ⟨rfl, rfl, rfl, by decide +kernel, rfl, by decide +kernel, by decide +kernel⟩
def F_Talk_road : FSt := (fSeq (fDo (fMeth 0 B_Talk_ask_porch (fVar 0) [(fVar 1)]))
    (fRet (fLcR (fIl (fBin gIx (fFld 0 7 (fVar 0)) (fVar 1))) 2 [2] fYes (fBin gIx (fVar 2) (fC (.int 0))))))
def B_Talk_road : Fn := runB 3 2 F_Talk_road
theorem okB_Talk_road (T : Tx w.params K mg C A fd) : FnV (gm K C cc cv) P w K mg base 3 (A 16) (fd 16) ["self", "porch"] B_Talk_road := by
  have okB_Talk_ask_porch := okB_Talk_ask_porch (P := P) (w := w) (base := base) (cc := cc) (cv := cv) T
  exact fnV_of rfl T.f_Talk_road sc_Talk_road (fun cdv A' outer s H E hr tk hp =>
    (sss_cons (ss_expr (se_meth 0 (se_var 0) T.cl_0 T.m_Talk_ask_porch (show ("ask_porch" : Str) ∉ flOf 0 by decide +kernel) okB_Talk_ask_porch (hr.mono (by decide)) T.b_Talk_ask_porch tk (sa_cons (se_var 1) sa_nil)))
      (sss_one (ss_ret (se_lcR rfl sc_Talk_road.nd [("pair", 2)] rfl (si_list rfl (se_ix ix_w sim_ix (se_fld 0 7 T.cl_0 T.na_0_roads rfl rfl (se_var 0)) (se_var 1))) (blkOk_by (own := [("pair", 2)]) (N := N_Talk_road) (sc := defScope s_Talk_road) (by decide +kernel)) (by decide) (fun _ _ _ _ _ => pgn 2 sc_Talk_road.nd) (fun _ _ _ _ _ => sts_nil) (fun _ _ _ _ _ => (se_ix ix_w sim_ix (se_var 2) se_int)))))))
end Pr

namespace Pr
open PySem L2 Tw
theorem z0 : 0 ≤ sizeLine := by decide
theorem z1 : 1 ≤ sizeLine := by decide
theorem z2 : 2 ≤ sizeLine := by decide
theorem z3 : 3 ≤ sizeLine := by decide
theorem kII : kitB "int" "int" = some true := by decide
theorem kIB : kitB "int" "bool" = some false := by decide
theorem kBB : kitB "bool" "bool" = some true := by decide
theorem kNB : kitB "NoneType" "bool" = some false := by decide
theorem tdI (h : VH) (i : Int) : toD 8 h (.int i) = some (.int i) := rfl
theorem tdS (h : VH) (x : Str) (k : PyData.strOk x = true) : toD 8 h (.str x) = some (.str x) := by show (if PyData.strOk x = true then some (PyData.str x) else none) = _; rw [if_pos k]
theorem tdAns (h : VH) : toD 8 h (.str "answer") = some (.str "answer") := tdS h _ (by decide +kernel)
theorem tdLtr (h : VH) : toD 8 h (.str "letter") = some (.str "letter") := tdS h _ (by decide +kernel)
theorem eqI (i j : Int) : PyData.eqv (.int i) (.int j) = decide (i = j) := by rw [PyData.eqv]; by_cases h : i = j <;> simp [h]
theorem eqAL : PyData.eqv (.str "answer") (.str "letter") = false := by decide +kernel
theorem eqLA : PyData.eqv (.str "letter") (.str "answer") = false := by decide +kernel
theorem eqAA : PyData.eqv (.str "answer") (.str "answer") = true := by decide +kernel
def ch (T : Tk) (x : VH) : VH := (canT T).map Cell.pl ++ x
theorem whole_int (i : Int) (h : VH) : B_is_whole [.int i] h = some (.ok (.bl true), h) := by
  simp [B_is_whole, F_is_whole, runB, startV, isiB, kII, kIB]
theorem bounds_run (m w l : Int) (h : VH) (h1 : 1 ≤ m ∧ m ≤ 16) (h2 : 1 ≤ w ∧ w ≤ 3) (h3 : 1 ≤ l ∧ l ≤ 4) : B_asked_bounds [.int m, .int w, .int l] h = some (.ok .non, h) := by
  simp [B_asked_bounds, F_asked_bounds, runB, startV, whole_int, h1, h2, h3]
theorem porch_run (p : Int) (w : W) (h : VH) : B_Talk_ask_porch [w, .int p] h = if okP p then some (.ok .non, h) else some (.ex 15, h) := by
  by_cases h0 : p = 0
  · subst h0; simp [B_Talk_ask_porch, F_Talk_ask_porch, runB, startV, whole_int, z2]
  by_cases h1 : p = 1
  · subst h1; simp [B_Talk_ask_porch, F_Talk_ask_porch, runB, startV, whole_int, z2]
  simp [B_Talk_ask_porch, F_Talk_ask_porch, runB, startV, whole_int, z2, h0, h1, Ne.symm h0, Ne.symm h1]
theorem say_run (T : Tk) {N : Nat} (g : T.Good N) (w : Int) (x : VH) : B_Talk_say [.ref 0, .int w] (ch T x) = some ((T.say w).1, ch (T.say w).2 x) := by
  have hs := g.said
  have hz : T.said.length < sizeLine := sz' (by omega)
  by_cases h0 : 0 ≤ w
  · by_cases h1 : w ≤ 99
    · by_cases a1 : T.window ≤ T.said.length - T.known
      · simp [B_Talk_say, F_Talk_say, runB, startV, whole_int, canT, ch, Tk.waits, Tk.say, h0, h1, a1]
      · by_cases a2 : T.last = T.now
        · simp [B_Talk_say, F_Talk_say, runB, startV, whole_int, canT, ch, Tk.waits, Tk.say, h0, h1, a1, a2, tdI, eqI]
        · by_cases a3 : (60 : Int) ≤ T.said.length
          · simp [B_Talk_say, F_Talk_say, runB, startV, whole_int, canT, ch, Tk.waits, Tk.say, h0, h1, a1, a2, a3, tdI, eqI]
          · simp [B_Talk_say, F_Talk_say, runB, startV, whole_int, canT, ch, Tk.waits, Tk.say, h0, h1, a1, a2, a3, tdI, eqI, hz]
    · simp [B_Talk_say, F_Talk_say, runB, startV, whole_int, canT, ch, Tk.waits, Tk.say, h0, h1]
  · simp [B_Talk_say, F_Talk_say, runB, startV, whole_int, canT, ch, Tk.waits, Tk.say, h0]
theorem put_run (T : Tk) {N : Nat} (g : T.Good N) (hN : N < 1000000) (p : Int) (hp : okP p) (l : Ltr) (x : VH) : B_Talk_put_on [.ref 0, .int p, encL l] (ch T x) = some (if T.up p = true then (.ok (.int (T.rd p).length), ch (T.put p l) x) else (.ex 20, ch T x)) := by
  have z0 : (encR T.r0).length < sizeLine := sz' (by simp [encR]; have := g.r0; omega)
  have z1 : (encR T.r1).length < sizeLine := sz' (by simp [encR]; have := g.r1; omega)
  rcases hp with rfl | rfl
  · cases hu : T.u0 <;> simp [B_Talk_put_on, F_Talk_put_on, runB, startV, canT, ch, Tk.up, Tk.put, Tk.rd, Tk.sRd, hu, z0, z2, ixN]
    simp [encR]
  · cases hu : T.u1 <;> simp [B_Talk_put_on, F_Talk_put_on, runB, startV, canT, ch, Tk.up, Tk.put, Tk.rd, Tk.sRd, hu, z1, z2, ixN]
    simp [encR]
section
variable (T : Tk) (x : VH)
theorem c0 : (ch T x)[0]? = some (.pl (.ins 0 [.int T.marks, .int T.window, .int T.life, .ref 1, .int T.known, .ref 2, .ref 3, .ref 4, .ref 7, .int T.now, .int T.last])) := rfl
theorem c1 : (ch T x)[1]? = some (.pl (.lst (T.said.map W.int))) := rfl
theorem c2 : (ch T x)[2]? = some (.pl (.lst (T.heard.map W.int))) := rfl
theorem c3 : (ch T x)[3]? = some (.pl (.dct (encE T.early))) := rfl
theorem c4 : (ch T x)[4]? = some (.pl (.lst [.ref 5, .ref 6])) := rfl
theorem c5 : (ch T x)[5]? = some (.pl (.lst (encR T.r0))) := rfl
theorem c6 : (ch T x)[6]? = some (.pl (.lst (encR T.r1))) := rfl
theorem c7 : (ch T x)[7]? = some (.pl (.lst [.bl T.u0, .bl T.u1])) := rfl
theorem cs (k : Int) : (ch T x).set 0 (.pl (.ins 0 [.int T.marks, .int T.window, .int T.life, .ref 1, .int k, .ref 2, .ref 3, .ref 4, .ref 7, .int T.now, .int T.last])) = ch { T with known := k } x := rfl
end
theorem saidAt_get (T : Tk) (n : Int) (h0 : 0 ≤ n) (h1 : n < T.said.length) : T.said[n.toNat]? = some (T.saidAt n) := by
  have : n.toNat < T.said.length := by omega
  simp [Tk.saidAt, this]
theorem post_run (T : Tk) {N : Nat} (g : T.Good N) (hN : N < 1000000) (p n : Int) (x : VH) : B_Talk_post [.ref 0, .int p, .int n] (ch T x) = some ((T.post p n).1, ch (T.post p n).2 x) := by
  have hm := g.marks
  have hk := g.known
  by_cases hp : okP p
  · by_cases h0 : T.known ≤ n
    · by_cases h1 : n < T.said.length
      · have e1 := saidAt_get T n (by omega) h1
        have e0 : 0 ≤ n := by omega
        have e2 : ixN T.said.length n = some n.toNat := by simp [ixN, e0, h1]
        have e3 : B_Talk_put_on [.ref 0, .int p, .tup [.str "letter", .int (n % T.marks), .int (T.saidAt n)]] (ch T x) = some (if T.up p = true then (.ok (.int (T.rd p).length), ch (T.put p (T.ltrOf n)) x) else (.ex 20, ch T x)) := put_run T g hN p hp (T.ltrOf n) x
        cases hu : T.up p <;> simp [B_Talk_post, F_Talk_post, runB, startV, whole_int, c0, c1, porch_run, hp, h0, h1, hm, e1, e2, z3, Tk.post, hu, e3]
      · simp [B_Talk_post, F_Talk_post, runB, startV, whole_int, c0, c1, porch_run, hp, h0, h1, Tk.post]
    · simp [B_Talk_post, F_Talk_post, runB, startV, whole_int, c0, c1, porch_run, hp, h0, Tk.post]
  · simp [B_Talk_post, F_Talk_post, runB, startV, whole_int, c0, porch_run, hp, Tk.post]
theorem answer_run (T : Tk) {N : Nat} (g : T.Good N) (hN : N < 1000000) (p : Int) (x : VH) : B_Talk_answer [.ref 0, .int p] (ch T x) = some ((T.answer p).1, ch (T.answer p).2 x) := by
  have hm := g.marks
  by_cases hp : okP p
  · have e3 : B_Talk_put_on [.ref 0, .int p, .tup [.str "answer", .int (T.heard.length % T.marks)]] (ch T x) = some (if T.up p = true then (.ok (.int (T.rd p).length), ch (T.put p T.ansOf) x) else (.ex 20, ch T x)) := put_run T g hN p hp T.ansOf x
    cases hu : T.up p <;> simp [B_Talk_answer, F_Talk_answer, runB, startV, c0, c2, porch_run, hp, hm, z2, Tk.answer, hu, e3]
  · simp [B_Talk_answer, F_Talk_answer, runB, startV, c0, porch_run, hp, Tk.answer]
def offR (T : Tk) (p i : Int) (x : VH) : Rs W × VH := if okP p then (match T.atP p i with
    | some l => (.ok (encL l), ch (T.off p i) x)
    | none => (.ex 17, ch T x)) else (.ex 15, ch T x)
theorem erase_map {A B : Type} (f : A → B) : ∀ (l : List A) (i : Nat), (l.map f).eraseIdx i = (l.eraseIdx i).map f
  | [], _ => rfl
  | a :: l, 0 => rfl
  | a :: l, i + 1 => by simp [erase_map f l i]
theorem encR_get (r : List (Ltr × Int)) (i : Nat) (h : i < (encR r).length) : (encR r)[i] = .tup [encL (r[i]'(by simpa [encR] using h)).1, .int (r[i]'(by simpa [encR] using h)).2] := by simp [encR]
theorem off_run (T : Tk) {N : Nat} (g : T.Good N) (hN : N < 1000000) (p i : Int) (x : VH) : B_Talk_take_off [.ref 0, .int p, .int i] (ch T x) = some (offR T p i x) := by
  by_cases hp : okP p
  · by_cases h0 : 0 ≤ i
    · rcases hp with rfl | rfl
      · have p0 : okP 0 := by decide
        by_cases h1 : i < T.r0.length
        · have e1 : i.toNat < T.r0.length := by omega
          have h2 : i < 9223372036854775808 := by have := g.r0; omega
          have e3 : (encR T.r0)[i.toNat]? = some (.tup [encL T.r0[i.toNat].1, .int T.r0[i.toNat].2]) := by simp [encR, e1]
          have e4 : (encR T.r0).length = T.r0.length := by simp [encR]
          have e5 : (encR T.r0).eraseIdx i.toNat = encR (T.r0.eraseIdx i.toNat) := erase_map _ _ _
          simp [B_Talk_take_off, F_Talk_take_off, runB, startV, whole_int, canT, ch, porch_run, p0, h0, h1, h2, offR, Tk.atP, Tk.off, Tk.rd, Tk.sRd, ixN, e1, encR_get, e4, e5]
        · have e4 : (encR T.r0).length = T.r0.length := by simp [encR]
          have e1 : ¬ i.toNat < T.r0.length := by omega
          simp [B_Talk_take_off, F_Talk_take_off, runB, startV, whole_int, c0, c4, c5, c6, porch_run, p0, h0, h1, offR, Tk.atP, Tk.off, Tk.rd, Tk.sRd, ixN, e1, e4]
      · have p1 : okP 1 := by decide
        by_cases h1 : i < T.r1.length
        · have e1 : i.toNat < T.r1.length := by omega
          have h2 : i < 9223372036854775808 := by have := g.r1; omega
          have e3 : (encR T.r1)[i.toNat]? = some (.tup [encL T.r1[i.toNat].1, .int T.r1[i.toNat].2]) := by simp [encR, e1]
          have e4 : (encR T.r1).length = T.r1.length := by simp [encR]
          have e5 : (encR T.r1).eraseIdx i.toNat = encR (T.r1.eraseIdx i.toNat) := erase_map _ _ _
          simp [B_Talk_take_off, F_Talk_take_off, runB, startV, whole_int, canT, ch, porch_run, p1, h0, h1, h2, offR, Tk.atP, Tk.off, Tk.rd, Tk.sRd, ixN, e1, encR_get, e4, e5]
        · have e4 : (encR T.r1).length = T.r1.length := by simp [encR]
          have e1 : ¬ i.toNat < T.r1.length := by omega
          simp [B_Talk_take_off, F_Talk_take_off, runB, startV, whole_int, c0, c4, c5, c6, porch_run, p1, h0, h1, offR, Tk.atP, Tk.off, Tk.rd, Tk.sRd, ixN, e1, e4]
    · have p0 : okP 0 := by decide
      have p1 : okP 1 := by decide
      rcases hp with rfl | rfl <;> simp [B_Talk_take_off, F_Talk_take_off, runB, startV, whole_int, c0, porch_run, h0, p0, p1, offR, Tk.atP, Tk.rd, ixN, c4, c5, c6]
  · simp [B_Talk_take_off, F_Talk_take_off, runB, startV, whole_int, c0, porch_run, hp, offR]
theorem lose_run (T : Tk) {N : Nat} (g : T.Good N) (hN : N < 1000000) (p i : Int) (x : VH) : B_Talk_lose [.ref 0, .int p, .int i] (ch T x) = some ((T.lose p i).1, ch (T.lose p i).2 x) := by
  have e := off_run T g hN p i x
  by_cases hp : okP p
  · cases ha : T.atP p i with
    | none =>
      have e' : offR T p i x = (.ex 17, ch T x) := by simp [offR, hp, ha]
      simp [B_Talk_lose, F_Talk_lose, runB, startV, c0, e, e', Tk.lose, hp, ha]
    | some l =>
      have e' : offR T p i x = (.ok (encL l), ch (T.off p i) x) := by simp [offR, hp, ha]
      have e4 : (encR (T.off p i).r0).length = (T.off p i).r0.length := by simp [encR]
      have e5 : (encR (T.off p i).r1).length = (T.off p i).r1.length := by simp [encR]
      rcases hp with rfl | rfl <;> simp [B_Talk_lose, F_Talk_lose, runB, startV, c0, c4, c5, c6, e, e', Tk.lose, ha, Tk.rd, ixN, show okP 0 by decide, show okP 1 by decide, e4, e5]
  · have e' : offR T p i x = (.ex 15, ch T x) := by simp [offR, hp]
    simp [B_Talk_lose, F_Talk_lose, runB, startV, c0, e, e', Tk.lose, hp]
theorem rise_run (T : Tk) (p : Int) (x : VH) : B_Talk_rise [.ref 0, .int p] (ch T x) = some ((T.rise p).1, ch (T.rise p).2 x) := by
  by_cases hp : okP p
  · rcases hp with rfl | rfl
    · cases hu : T.u0 <;> simp [B_Talk_rise, F_Talk_rise, runB, startV, canT, ch, porch_run, Tk.rise, Tk.up, Tk.sUp, hu, ixN, show okP 0 by decide]
    · cases hu : T.u1 <;> simp [B_Talk_rise, F_Talk_rise, runB, startV, canT, ch, porch_run, Tk.rise, Tk.up, Tk.sUp, hu, ixN, show okP 1 by decide]
  · simp [B_Talk_rise, F_Talk_rise, runB, startV, c0, porch_run, Tk.rise, hp]
theorem fall_run (T : Tk) (p : Int) (hp : okP p) (hu : T.up p = true) : B_Talk_fall [.ref 0, .int p] (ch T []) = some (.ok (.int (T.rd p).length), ((canT (T.sUp p false)).map Cell.pl).set 4 (.pl (.lst [.ref (if p = 0 then 8 else 5), .ref (if p = 0 then 6 else 8)])) ++ [.pl (.lst [])]) := by
  rcases hp with rfl | rfl
  · have hu' : T.u0 = true := hu
    simp [B_Talk_fall, F_Talk_fall, runB, startV, canT, ch, porch_run, Tk.rd, Tk.sUp, hu', ixN, show okP 0 by decide, z0, encR]
  · have hu' : T.u1 = true := hu
    simp [B_Talk_fall, F_Talk_fall, runB, startV, canT, ch, porch_run, Tk.rd, Tk.sUp, hu', ixN, show okP 1 by decide, z0, encR]
theorem fall_no (T : Tk) (p : Int) (h : ¬ (okP p ∧ T.up p = true)) (x : VH) : B_Talk_fall [.ref 0, .int p] (ch T x) = some ((T.fall p).1, ch T x) := by
  by_cases hp : okP p
  · have hu : T.up p = false := by simpa [hp] using h
    rcases hp with rfl | rfl
    · have hu' : T.u0 = false := hu
      simp [B_Talk_fall, F_Talk_fall, runB, startV, c0, c7, porch_run, Tk.fall, Tk.up, hu', ixN, show okP 0 by decide]
    · have hu' : T.u1 = false := hu
      simp [B_Talk_fall, F_Talk_fall, runB, startV, c0, c7, porch_run, Tk.fall, Tk.up, hu', ixN, show okP 1 by decide]
  · simp [B_Talk_fall, F_Talk_fall, runB, startV, c0, porch_run, Tk.fall, hp]
theorem heard_run (T : Tk) (x : VH) : B_Talk_words_heard [.ref 0] (ch T x) = some (.ok (.rl (T.heard.map W.int)), ch T x) := by
  simp [B_Talk_words_heard, F_Talk_words_heard, runB, startV, canT, ch]
theorem said_run (T : Tk) (x : VH) : B_Talk_words_said [.ref 0] (ch T x) = some (.ok (.rl (T.said.map W.int)), ch T x) := by
  simp [B_Talk_words_said, F_Talk_words_said, runB, startV, canT, ch]
theorem left_rg (T : Tk) : rgW T.known T.said.length = T.left.map W.int := by simp [rgW, Tk.left]
theorem left_ok (T : Tk) {N : Nat} (g : T.Good N) : rgOk T.known T.said.length = true := by
  have h1 := g.known
  have h2 := g.ks
  have h3 := g.said
  simp only [rgOk, Bool.and_eq_true, decide_eq_true_eq]
  omega
def Tk.stand (T : Tk) : List Int := (if T.u0 = true then [0] else []) ++ (if T.u1 = true then [1] else [])
theorem lc_run {A : Type} (enc : A → W) (t : A → Bool) (e : A → W) (xs : List A) (h : VH) (src : Sc) (i0 : Nat) (ft : FT) (fe : FE) (fm : Fm) (hx : xs.length < sizeLine)
    (hn : ∀ acc j, src.nx (h ++ [.pl (.lst acc)]) j = some (xs[j]?.map enc)) (ht : ∀ acc a, a ∈ xs → ft (fm.set i0 (some (enc a))) (h ++ [.pl (.lst acc)]) = some (.ok (t a), h ++ [.pl (.lst acc)]))
    (he : ∀ acc a, a ∈ xs → fe (fm.set i0 (some (enc a))) (h ++ [.pl (.lst acc)]) = some (.ok (e a), h ++ [.pl (.lst acc)])) :
    ∀ (ys : List A) (i k : Nat) (acc : List W), xs.drop i = ys → ys.length < k → acc.length + ys.length ≤ xs.length → lcLoop src i0 h.length ft fe fm k i (h ++ [.pl (.lst acc)]) = some (h ++ [.pl (.lst (acc ++ (ys.filter t).map e))])
  | _, _, 0, _, _, hk, _ => by omega
  | [], i, k + 1, acc, hy, hk, ha => by
    have : xs[i]? = none := by
      rw [List.getElem?_eq_none]
      have := List.drop_eq_nil_iff.mp hy
      exact this
    simp [lcLoop, hn, this]
  | a :: ys, i, k + 1, acc, hy, hk, ha => by
    have e1 : xs[i]? = some a := by
      have : (xs.drop i)[0]? = some a := by rw [hy]; rfl
      rw [List.getElem?_drop] at this
      simpa using this
    have hm : a ∈ xs := List.mem_of_getElem? e1
    have hy' : xs.drop (i + 1) = ys := by rw [← List.drop_drop, hy]; rfl
    simp only [List.length_cons] at hk ha
    have hz : acc.length < sizeLine := by omega
    have ih := fun acc' h' => lc_run enc t e xs h src i0 ft fe fm hx hn ht he ys (i + 1) k acc' hy' (by omega) h'
    cases q : t a with
    | true =>
      have ih1 := ih (acc ++ [e a]) (by rw [List.length_append, List.length_singleton]; omega)
      simp [lcLoop, hn, e1, ht _ a hm, he _ a hm, q, hz, ih1]
    | false =>
      have ih1 := ih acc (by omega)
      simp [lcLoop, hn, e1, ht _ a hm, q, ih1]
theorem fLc_run {A : Type} (enc : A → W) (t : A → Bool) (e : A → W) (xs : List A) {h : VH} {src : Sc} {i0 : Nat} {vs : List Nat} {fi : FI} {ft : FT} {fe : FE} {fm : Fm} (hf : fi fm h = some (.ok src, h)) (hx : xs.length < sizeLine) (hc : src.cnt h = xs.length)
    (hn : ∀ acc j, src.nx (h ++ [.pl (.lst acc)]) j = some (xs[j]?.map enc)) (ht : ∀ acc a, a ∈ xs → ft ((wipeV fm vs).set i0 (some (enc a))) (h ++ [.pl (.lst acc)]) = some (.ok (t a), h ++ [.pl (.lst acc)]))
    (he : ∀ acc a, a ∈ xs → fe ((wipeV fm vs).set i0 (some (enc a))) (h ++ [.pl (.lst acc)]) = some (.ok (e a), h ++ [.pl (.lst acc)])) :
    fLc fi i0 vs ft fe fm h = some (.ok (.ref h.length), h ++ [.pl (.lst ((xs.filter t).map e))]) := by
  simp only [fLc, hf, bindM]
  rw [lc_run enc t e xs h src i0 ft fe (wipeV fm vs) hx hn ht he xs 0 (src.cnt h + 1) [] rfl (by omega) (by simp)]
  rfl
end Pr

namespace Pr
open PySem L2 Tw
theorem dget_enc (k : Int) : ∀ e : List (Int × Int), dget k (encE e) = (dgetI k e).map W.int
  | [] => rfl
  | p :: r => by
    have ih := dget_enc k r
    unfold encE at ih
    by_cases h : p.1 = k <;> simp [encE, dget, dgetI, h, ih]
theorem ddrop_enc (k : Int) : ∀ e : List (Int × Int), ddrop k (encE e) = encE (ddropI k e)
  | [] => rfl
  | p :: r => by
    have ih := ddrop_enc k r
    unfold encE at ih
    by_cases h : p.1 = k <;> simp [encE, ddrop, ddropI, h, ih]
theorem while_run (x : VH) (fm : Fm) (h0 : fm[0]? = some (some (.ref 0))) : ∀ (k : Nat) (T : Tk), T.early.length < k → T.heard.length + T.early.length < 1000000 →
    whLoop (fB (fDin false (fCB gLen [(fFld 0 5 (fVar 0))]) (fFld 0 6 (fVar 0)))) (fDo (fLM gApp (fFld 0 5 (fVar 0)) [(fDpop (fFld 0 6 (fVar 0)) (fCB gLen [(fFld 0 5 (fVar 0))]))])) k fm (ch T x)
      = some (.nx, fm, ch { T with heard := (drain T.early.length T.heard T.early).1, early := (drain T.early.length T.heard T.early).2 } x)
  | 0, T, hk, _ => by omega
  | k + 1, T, hk, hs => by
    cases q : dgetI T.heard.length T.early with
    | none =>
      have e0 : drain T.early.length T.heard T.early = (T.heard, T.early) := by
        cases hl : T.early.length <;> simp [drain, q]
      simp [whLoop, h0, c0, c2, c3, dget_enc, q, e0]
    | some w =>
      have hz : T.heard.length < sizeLine := sz' (by omega)
      have hl := ddropI_len q
      have e0 : drain T.early.length T.heard T.early = drain (ddropI T.heard.length T.early).length (T.heard ++ [w]) (ddropI T.heard.length T.early) := by
        obtain ⟨j, hj⟩ : ∃ j, T.early.length = j + 1 := ⟨T.early.length - 1, by omega⟩
        rw [hj]
        show (match dgetI T.heard.length T.early with
          | some w => drain j (T.heard ++ [w]) (ddropI T.heard.length T.early)
          | none => (T.heard, T.early)) = _
        rw [q]
        exact drain_more _ _ _ _ (Nat.le_refl _) (by omega)
      have ih := while_run x fm h0 k { T with heard := T.heard ++ [w], early := ddropI T.heard.length T.early } (by show (ddropI T.heard.length T.early).length < k; omega) (by show (T.heard ++ [w]).length + (ddropI T.heard.length T.early).length < _; rw [List.length_append, List.length_singleton]; omega)
      rw [e0]
      simp only [ch, canT] at ih
      simp [whLoop, h0, ch, canT, dget_enc, ddrop_enc, q, hz] at ih ⊢
      exact ih
theorem cse (U : Tk) (x : VH) (n w : Int) : (ch U x).set 3 (.pl (.dct (encE U.early ++ [(n, .int w)]))) = ch { U with early := U.early ++ [(n, w)] } x := by simp [ch, canT, encE]
theorem bring_run (T : Tk) {N : Nat} (g : T.Good N) (hN : N < 900000) (p i : Int) (x : VH) : B_Talk_bring [.ref 0, .int p, .int i] (ch T x) = some ((T.bring p i).1, ch (T.bring p i).2 x) := by
  have e := off_run T g (by omega) p i x
  by_cases hp : okP p
  · cases ha : T.atP p i with
    | none =>
      have e' : offR T p i x = (.ex 17, ch T x) := by simp [offR, hp, ha]
      simp [B_Talk_bring, F_Talk_bring, runB, startV, c0, e, e', Tk.bring, hp, ha]
    | some l =>
      have e' : offR T p i x = (.ok (encL l), ch (T.off p i) x) := by simp [offR, hp, ha]
      have g' : (T.off p i).Good N := g.off p i
      generalize hU : T.off p i = U at *
      have hm := g'.marks
      cases l with
      | ans m =>
        by_cases h1 : (m - U.known) % U.marks ≤ U.said.length - U.known
        · simp [B_Talk_bring, F_Talk_bring, runB, startV, c0, c1, e, e', Tk.bring, hp, ha, encL, ixN, tdAns, eqAA, hm, h1, hU, Tk.arrive]
          exact cs _ _ _
        · simp [B_Talk_bring, F_Talk_bring, runB, startV, c0, c1, e, e', Tk.bring, hp, ha, encL, ixN, tdAns, eqAA, hm, h1, hU, Tk.arrive]
          exact cs _ _ _
      | ltr m w =>
        by_cases h1 : U.window ≤ (m - U.heard.length) % U.marks
        · simp [B_Talk_bring, F_Talk_bring, runB, startV, c0, c1, c2, e, e', Tk.bring, hp, ha, encL, ixN, tdAns, tdLtr, eqLA, hm, h1, hU, Tk.arrive]
        · have hh := g'.hear
          cases q : dgetI (U.heard.length + (m - U.heard.length) % U.marks) U.early with
          | some y =>
            have hw := fun fm h0 => while_run x fm h0 fuelW U (by show _ < 1000000; omega) (by omega)
            have e0 : drain U.early.length U.heard U.early = (U.heard, U.early) := by
              cases hl : U.early.length <;> simp [drain, g'.ear]
            simp [B_Talk_bring, F_Talk_bring, runB, startV, c0, c1, c2, c3, e, e', Tk.bring, hp, ha, encL, ixN, tdAns, tdLtr, eqLA, hm, h1, hU, Tk.arrive, dget_enc, q, hw, e0]
          | none =>
            have hz : (encE U.early).length < sizeLine := sz' (by simp [encE]; omega)
            have hw := fun fm h0 => while_run x fm h0 fuelW { U with early := U.early ++ [(U.heard.length + (m - U.heard.length) % U.marks, w)] } (by show _ < 1000000; simp; omega) (by simp; omega)
            simp only [List.length_append, List.length_singleton] at hw
            simp [B_Talk_bring, F_Talk_bring, runB, startV, c0, c1, c2, c3, e, e', Tk.bring, hp, ha, encL, ixN, tdAns, tdLtr, eqLA, hm, h1, hU, Tk.arrive, dget_enc, q, cse, hz, hw]
  · have e' : offR T p i x = (.ex 15, ch T x) := by simp [offR, hp]
    simp [B_Talk_bring, F_Talk_bring, runB, startV, c0, e, e', Tk.bring, hp]
end Pr

namespace Pr
open PySem L2 Tw
abbrev encP (a : Ltr × Int) : W := .tup [encL a.1, .int a.2]
theorem get_app {h : VH} {n : Nat} {c : Cell} (e : h[n]? = some c) (y : VH) : (h ++ y)[n]? = some c := by
  rw [List.getElem?_append_left (List.getElem?_eq_some_iff.mp e).1]; exact e
abbrev insT (U : Tk) : Cell := .pl (.ins 0 [.int U.marks, .int U.window, .int U.life, .ref 1, .int U.known, .ref 2, .ref 3, .ref 4, .ref 7, .int U.now, .int U.last])
theorem keep_run (U : Tk) (h : VH) (q gone : Int) (y z : Option W) (n : Nat) (rs : List W) (r : List (Ltr × Int)) (e0 : h[0]? = some (insT U)) (e4 : h[4]? = some (.pl (.lst rs))) (eq : atW rs q = some (.ref n)) (en : h[n]? = some (.pl (.lst (encR r)))) (hz : r.length < 1000000) :
    fLc (fIl (fBin gIx (fFld 0 7 (fVar 0)) (fVar 2))) 4 [4] (fB (fBin gLt (fBin gSub (fFld 0 9 (fVar 0)) (fBin gIx (fVar 4) (fC (.int 1)))) (fFld 0 2 (fVar 0)))) (fVar 4) [some (.ref 0), some (.int gone), some (.int q), y, z] h
      = some (.ok (.ref h.length), h ++ [.pl (.lst (encR (r.filter fun x => decide (U.now - x.2 < U.life))))]) := by
  have e0' := fun y => get_app e0 y
  have en' := fun y => get_app en y
  have eq' : (ixN rs.length q).bind (fun j => rs[j]?) = some (.ref n) := eq
  refine fLc_run (src := .lst n) encP (fun x => decide (U.now - x.2 < U.life)) encP r ?_ (sz' hz) ?_ ?_ ?_ ?_
  · simp [e0, e4, eq', en]
  · simp [Sc.cnt, en, encR]
  · intro acc j
    simp [Sc.nx, en', encR]
  · intro acc a _
    have e1 := e0' [.pl (.lst acc)]
    generalize h ++ [Cell.pl (.lst acc)] = h' at e1 ⊢
    simp [e1, wipeV, ixN]
  · intro acc a _
    simp [wipeV]
theorem tick_run (T : Tk) {N : Nat} (g : T.Good N) (hN : N < 1000000) : B_Talk_tick [.ref 0] (ch T []) = some (T.tick.1, ((canT { T.tick.2 with r0 := T.r0, r1 := T.r1 }).map Cell.pl).set 4 (.pl (.lst [.ref 8, .ref 9])) ++ [.pl (.lst (encR (T.old T.r0))), .pl (.lst (encR (T.old T.r1)))]) := by
  have l0 := g.r0
  have l1 := g.r1
  have k0 := fun gone y z => keep_run { T with now := T.now + 1 } (ch { T with now := T.now + 1 } []) 0 gone y z 5 [.ref 5, .ref 6] T.r0 rfl rfl (by simp [ixN]) rfl (by omega)
  have k1 := fun gone y z => keep_run { T with now := T.now + 1 } ((ch { T with now := T.now + 1 } [.pl (.lst (encR (T.old T.r0)))]).set 4 (.pl (.lst [.ref 8, .ref 6]))) 1 gone y z 6 [.ref 8, .ref 6] T.r1 rfl rfl (by simp [ixN]) rfl (by omega)
  have hl : ∀ r, (encR r).length = r.length := fun r => by simp [encR]
  simp only [ch, canT, List.map_cons, List.map_nil, List.cons_append, List.nil_append, List.set_cons_succ, List.set_cons_zero, Tk.old] at k0 k1
  simp [-fLc, B_Talk_tick, F_Talk_tick, runB, startV, canT, ch, z2, forLoop, Sc.nx, Sc.cnt, k0, k1, ixN, hl, Tk.tick, Tk.old]
theorem rdl_run (U : Tk) (h : VH) (p : Int) (n : Nat) (rs : List W) (r : List (Ltr × Int)) (e0 : h[0]? = some (insT U)) (e4 : h[4]? = some (.pl (.lst rs))) (eq : atW rs p = some (.ref n)) (en : h[n]? = some (.pl (.lst (encR r)))) (hz : r.length < 1000000) :
    fLcR (fIl (fBin gIx (fFld 0 7 (fVar 0)) (fVar 1))) 2 [2] fYes (fBin gIx (fVar 2) (fC (.int 0))) [some (.ref 0), some (.int p), none] h = some (.ok (.rl (r.map fun a => encL a.1)), h) := by
  have eq' : (ixN rs.length p).bind (fun j => rs[j]?) = some (.ref n) := eq
  have := fLcR_run (fi := fIl (fBin gIx (fFld 0 7 (fVar 0)) (fVar 1))) (fm := [some (.ref 0), some (.int p), none]) (h := h) (src := .lst n) (i0 := 2) (vs := [2]) (ft := fYes) (fe := fBin gIx (fVar 2) (fC (.int 0))) encP (fun _ => true) (fun a => encL a.1) r
      (by simp [e0, e4, eq', en]) (sz' hz) (by simp [Sc.cnt, en, encR]) (fun j => by simp [Sc.nx, en, encR]) (fun a _ => by simp [wipeV]) (fun a _ _ => by simp [wipeV, ixN])
  rw [this, List.filter_eq_self.mpr (fun _ _ => rfl)]
theorem road_run (T : Tk) {N : Nat} (g : T.Good N) (hN : N < 1000000) (p : Int) (hp : okP p) (x : VH) : B_Talk_road [.ref 0, .int p] (ch T x) = some (.ok (.rl ((T.rd p).map fun a => encL a.1)), ch T x) := by
  have l0 := g.r0
  have l1 := g.r1
  rcases hp with rfl | rfl
  · have k := rdl_run T (ch T x) 0 5 [.ref 5, .ref 6] T.r0 rfl rfl (by simp [ixN]) rfl (by omega)
    simp only [ch, canT, List.map_cons, List.map_nil, List.cons_append, List.nil_append, List.set_cons_succ, List.set_cons_zero] at k
    simp [-fLcR, B_Talk_road, F_Talk_road, runB, startV, canT, ch, porch_run, show okP 0 by decide, k, Tk.rd]
  · have k := rdl_run T (ch T x) 1 6 [.ref 5, .ref 6] T.r1 rfl rfl (by simp [ixN]) rfl (by omega)
    simp only [ch, canT, List.map_cons, List.map_nil, List.cons_append, List.nil_append, List.set_cons_succ, List.set_cons_zero] at k
    simp [-fLcR, B_Talk_road, F_Talk_road, runB, startV, canT, ch, porch_run, show okP 1 by decide, k, Tk.rd]
theorem road_no (T : Tk) (p : Int) (hp : ¬ okP p) (x : VH) : B_Talk_road [.ref 0, .int p] (ch T x) = some (.ex 15, ch T x) := by
  simp [B_Talk_road, F_Talk_road, runB, startV, porch_run, hp, c0]
theorem init_run (m w l : Int) (h1 : 1 ≤ m ∧ m ≤ 16) (h2 : 1 ≤ w ∧ w ≤ 3) (h3 : 1 ≤ l ∧ l ≤ 4) : B_Talk_init [.ref 0, .int m, .int w, .int l] [.pl (.ins 0 [])] =
    some (.ok .non, [.pl (.ins 0 [.int m, .int w, .int l, .ref 1, .int 0, .ref 2, .ref 3, .ref 6, .ref 7, .int 0, .int (-1)]), .pl (.lst []), .pl (.lst []), .pl (.dct []), .pl (.lst []), .pl (.lst []), .pl (.lst [.ref 4, .ref 5]), .pl (.lst [.bl true, .bl true])]) := by
  simp [B_Talk_init, F_Talk_init, runB, startV, bounds_run, h1, h2, h3, z0, z2]
theorem one_run (T : Tk) {N : Nat} (g : T.Good N) (hN : N < 800000) (p n : Int) (hp : okP p) (hu : T.up p = true) (h0 : T.known ≤ n) (h1 : n < T.said.length) (x : VH) :
    T.post p n = (.ok (.int (T.rd p).length), T.put p (T.ltrOf n)) ∧ (T.put p (T.ltrOf n)).bring p (T.rd p).length = (.ok (.bl (T.arrive (T.ltrOf n)).1), T.hear n) := by
  constructor
  · simp [Tk.post, hp, h0, h1, hu]
  · simp only [Tk.bring, if_pos hp, Tk.put_at, Tk.put_off]
    rfl
theorem ans_run (T : Tk) (p : Int) (hp : okP p) (hu : T.up p = true) :
    T.answer p = (.ok (.int (T.rd p).length), T.put p T.ansOf) ∧ (T.put p T.ansOf).bring p (T.rd p).length = (.ok (.bl (T.arrive T.ansOf).1), (T.arrive T.ansOf).2) := by
  constructor
  · simp [Tk.answer, hp, hu]
  · simp only [Tk.bring, if_pos hp, Tk.put_at, Tk.put_off]
theorem catch_loop (p : Int) (hp : okP p) (xs : List Int) (x : VH) : ∀ (ys : List Int) (i k N : Nat) (T : Tk) (y : Option W), T.Good N → N + ys.length < 800000 → T.up p = true → xs.drop i = ys → ys.length < k → (∀ n ∈ ys, T.known ≤ n ∧ n < T.said.length) →
    ∃ y', forLoop (.vls (xs.map W.int)) (gtName 3) (fDo (fMeth 0 B_Talk_bring (fVar 0) [(fVar 1), (fMeth 0 B_Talk_post (fVar 0) [(fVar 1), (fVar 3)])])) k i [some (.ref 0), some (.int p), some (.rl (xs.map W.int)), y] (ch T x)
      = some (.nx, [some (.ref 0), some (.int p), some (.rl (xs.map W.int)), y'], ch (ys.foldl Tk.hear T) x) ∧ (ys.foldl Tk.hear T).Good (N + ys.length) ∧ (ys.foldl Tk.hear T).up p = true
  | _, _, 0, _, _, _, _, _, _, _, hk, _ => by omega
  | [], i, k + 1, N, T, y, g, hN, hu, hy, hk, ha => by
    have e : xs[i]? = none := by
      rw [List.getElem?_eq_none]
      exact List.drop_eq_nil_iff.mp hy
    exact ⟨y, by simp [forLoop, Sc.nx, e], g, hu⟩
  | a :: ys, i, k + 1, N, T, y, g, hN, hu, hy, hk, ha => by
    have e1 : xs[i]? = some a := by
      have : (xs.drop i)[0]? = some a := by rw [hy]; rfl
      rw [List.getElem?_drop] at this
      simpa using this
    have hy' : xs.drop (i + 1) = ys := by rw [← List.drop_drop, hy]; rfl
    simp only [List.length_cons] at hk hN
    obtain ⟨a0, a1⟩ := ha a List.mem_cons_self
    obtain ⟨p1, p2⟩ := one_run T g (by omega) p a hp hu a0 a1 x
    have r1 := post_run T g (by omega) p a x
    rw [p1] at r1
    have r2 := bring_run (T.put p (T.ltrOf a)) (g.put p _) (by omega) p (T.rd p).length x
    rw [p2] at r2
    have hs := hear_same T a
    have hu' : (T.hear a).up p = true := by
      unfold Tk.up at hu ⊢
      rw [hs.2.2.1, hs.2.2.2]
      exact hu
    obtain ⟨y', q1, q2, q3⟩ := catch_loop p hp xs x ys (i + 1) k (N + 1) (T.hear a) (some (.int a)) (hear_good g a) (by omega) hu' hy' (by omega) (fun n hn => by rw [hs.1, hs.2.1]; exact ha n (List.mem_cons_of_mem _ hn))
    refine ⟨y', ?_, q2.mono (by simp only [List.length_cons]; omega), q3⟩
    rw [List.foldl_cons, ← q1]
    simp [forLoop, Sc.nx, e1, c0, r1, r2]
end Pr

namespace Pr
open PySem PySem.Spec PyProof.Rows L2 Tw
variable {P : Program} {w : World} {K : PySem.W.Frag} {mg : Str → Option Value} {C A : Nat → Addr} {fd : Nat → FuncData} {base : Heap} {cc : Addr} {cv : Option (Option V)}
theorem lies_id (T : Tk) (x : VH) : Lies [0, 1, 2, 3, 4, 5, 6, 7] (canT T) (ch T x) := lies_can T _ _ _ _ _ _ _ _ _ rfl rfl rfl rfl rfl rfl rfl rfl
theorem chn (T : Tk) : (bkT.can T).map Cell.pl = ch T [] := (List.append_nil _).symm
theorem gl {T : Tk} (g : T.Good Lim) : Lim < 700000 := by decide
theorem res_say (T : Tk) (w : Int) : ResOk (T.say w).1 := by
  unfold Tk.say
  split
  · split
    · trivial
    · exact .int _
  · trivial
theorem res_post (T : Tk) (p n : Int) : ResOk (T.post p n).1 := by
  unfold Tk.post
  split
  · split
    · split
      · exact .int _
      · trivial
    · trivial
  · trivial
theorem res_answer (T : Tk) (p : Int) : ResOk (T.answer p).1 := by
  unfold Tk.answer
  split
  · split
    · exact .int _
    · trivial
  · trivial
theorem res_bring (T : Tk) (p n : Int) : ResOk (T.bring p n).1 := by
  unfold Tk.bring
  split
  · split
    · exact .bl _
    · trivial
  · trivial
theorem res_lose (T : Tk) (p n : Int) : ResOk (T.lose p n).1 := by
  unfold Tk.lose
  split
  · split
    · exact .int _
    · trivial
  · trivial
theorem res_rise (T : Tk) (p : Int) : ResOk (T.rise p).1 := by
  unfold Tk.rise
  split
  · split
    · trivial
    · exact .non
  · trivial
theorem res_fall (T : Tk) (p : Int) : ResOk (T.fall p).1 := by
  unfold Tk.fall
  split
  · split
    · exact .int _
    · trivial
  · trivial
theorem res_catch (T : Tk) (p : Int) : ResOk (T.catchUp p).1 := by
  unfold Tk.catchUp
  split
  · split
    · exact .int _
    · trivial
  · trivial
theorem noRs_encLs : ∀ r : List (Ltr × Int), NoRs (r.map fun a => encL a.1)
  | [] => .nil
  | p :: r => .cons (noR_encL _) (noRs_encLs r)
def Tk.roadR (T : Tk) (p : Int) : Rs W × Tk := if okP p then (.ok (.rl ((T.rd p).map fun a => encL a.1)), T) else (.ex 15, T)
theorem res_road (T : Tk) (p : Int) : ResOk (Tk.roadR T p).1 := by
  unfold Tk.roadR
  split
  · exact NoR.rl (noRs_encLs _)
  · trivial
def flatI : List W → Bool
  | [] => true
  | .int _ :: xs => flatI xs
  | _ => false
def badW : W → Bool
  | .non => true
  | .bl _ => true
  | .str _ => true
  | .tup xs => flatI xs
  | .rl xs => flatI xs
  | _ => false
theorem noRs_flat : ∀ {xs : List W}, flatI xs = true → NoRs xs
  | [], _ => .nil
  | .int i :: xs, h => .cons (.int i) (noRs_flat (by simpa [flatI] using h))
  | .non :: _, h | .bl _ :: _, h | .str _ :: _, h | .tup _ :: _, h | .rl _ :: _, h | .ref _ :: _, h => by simp [flatI] at h
theorem noR_bad {w : W} (h : badW w = true) : NoR w := by
  cases w with
  | non => exact .non
  | bl b => exact .bl b
  | str x => exact .str x
  | tup xs => exact .tup (noRs_flat h)
  | rl xs => exact .rl (noRs_flat h)
  | int i => cases h
  | ref n => cases h
theorem whole_bad {w : W} (hb : badW w = true) (h : VH) : B_is_whole [w] h = some (.ok (.bl false), h) := by
  have k1 : kitB "NoneType" "int" = some false := by decide +kernel
  have k2 : kitB "bool" "int" = some true := by decide +kernel
  have k3 : kitB "str" "int" = some false := by decide +kernel
  have k4 : kitB "tuple" "int" = some false := by decide +kernel
  have k5 : kitB "list" "int" = some false := by decide +kernel
  have k6 : kitB "bool" "bool" = some true := by decide +kernel
  cases w <;> first | (cases hb; done) | simp [B_is_whole, F_is_whole, runB, startV, isiB, k1, k2, k3, k4, k5, k6]
theorem say_bad (T : Tk) {w : W} (hb : badW w = true) (x : VH) : B_Talk_say [.ref 0, w] (ch T x) = some (.ex 14, ch T x) := by
  simp [B_Talk_say, F_Talk_say, runB, startV, whole_bad hb]
def sayW (T : Tk) : W → Option (Rs W × Tk)
  | .int w => some (T.say w)
  | w => if badW w = true then some (.ex 14, T) else none
def m_say : Mth := fun T rest => match rest with
  | [w] => sayW T w
  | _ => none
def S_Talk_say : Fn := onV bkT m_say
theorem okS_Talk_say (T : Tx w.params K mg C A fd) : FnV (gm K C cc cv) P w K mg base 2 (A 4) (fd 4) ["self", "word"] S_Talk_say := by
  refine okV (okB_Talk_say (P := P) (w := w) (base := base) T) fun T rest r T' g e => ?_
  unfold m_say at e
  split at e
  · unfold sayW at e
    split at e
    · have e' := Option.some.inj e
      obtain rfl : _ = r := congrArg Prod.fst e'
      obtain rfl : _ = T' := congrArg Prod.snd e'
      rw [chn]
      exact ⟨.cons (.int _) .nil, res_say T _, _, _, say_run T g _ [], lies_id _ _, by decide, rfl⟩
    · split at e
      · rename_i hb
        have e' := Option.some.inj e
        obtain rfl : _ = r := congrArg Prod.fst e'
        obtain rfl : _ = T' := congrArg Prod.snd e'
        rw [chn]
        exact ⟨.cons (noR_bad hb) .nil, trivial, _, _, say_bad T hb [], lies_id _ _, by decide, rfl⟩
      · cases e
  · cases e
theorem tSay (T : Tk) (g : T.Good Lim) (h : VH) (n : Nat) (e : h[n]? = some (.tk T)) (w : Int) : S_Talk_say (.ref n :: [.int w]) h = some ((T.say w).1, h.set n (.tk (T.say w).2)) := onV_eq (k := bkT) (T := T) e rfl g rfl
theorem tSayB (T : Tk) (g : T.Good Lim) (h : VH) (n : Nat) (e : h[n]? = some (.tk T)) {w : W} (hb : badW w = true) : S_Talk_say (.ref n :: [w]) h = some (.ex 14, h) := by
  have := onV_eq (k := bkT) (m := m_say) (T := T) (rest := [w]) (r := .ex 14) (T' := T) e rfl g (by cases w <;> first | (cases hb; done) | (simp only [m_say, sayW]; rw [if_pos hb]))
  rw [show h.set n (bkT.bx T) = h from set_same e] at this
  exact this
def m_post : Mth := fun T rest => match rest with
  | [.int p, .int n] => some (T.post p n)
  | _ => none
def S_Talk_post : Fn := onV bkT m_post
theorem okS_Talk_post (T : Tx w.params K mg C A fd) : FnV (gm K C cc cv) P w K mg base 3 (A 6) (fd 6) ["self", "porch", "number"] S_Talk_post := by
  refine okV (okB_Talk_post (P := P) (w := w) (base := base) T) fun T rest r T' g e => ?_
  unfold m_post at e
  split at e
  · have e' := Option.some.inj e
    obtain rfl : _ = r := congrArg Prod.fst e'
    obtain rfl : _ = T' := congrArg Prod.snd e'
    rw [chn]
    exact ⟨(.cons (.int _) (.cons (.int _) .nil)), res_post T _ _, _, _, post_run T g (by decide) _ _ [], lies_id _ _, by decide, rfl⟩
  · cases e
theorem tPost (T : Tk) (g : T.Good Lim) (h : VH) (n : Nat) (e : h[n]? = some (.tk T)) (p i : Int) : S_Talk_post (.ref n :: [.int p, .int i]) h = some ((T.post p i).1, h.set n (.tk (T.post p i).2)) := onV_eq (k := bkT) (T := T) e rfl g rfl
def m_answer : Mth := fun T rest => match rest with
  | [.int p] => some (T.answer p)
  | _ => none
def S_Talk_answer : Fn := onV bkT m_answer
theorem okS_Talk_answer (T : Tx w.params K mg C A fd) : FnV (gm K C cc cv) P w K mg base 3 (A 7) (fd 7) ["self", "porch"] S_Talk_answer := by
  refine okV (okB_Talk_answer (P := P) (w := w) (base := base) T) fun T rest r T' g e => ?_
  unfold m_answer at e
  split at e
  · have e' := Option.some.inj e
    obtain rfl : _ = r := congrArg Prod.fst e'
    obtain rfl : _ = T' := congrArg Prod.snd e'
    rw [chn]
    exact ⟨(.cons (.int _) .nil), res_answer T _, _, _, answer_run T g (by decide) _ [], lies_id _ _, by decide, rfl⟩
  · cases e
theorem tAnswer (T : Tk) (g : T.Good Lim) (h : VH) (n : Nat) (e : h[n]? = some (.tk T)) (p : Int) : S_Talk_answer (.ref n :: [.int p]) h = some ((T.answer p).1, h.set n (.tk (T.answer p).2)) := onV_eq (k := bkT) (T := T) e rfl g rfl
def m_bring : Mth := fun T rest => match rest with
  | [.int p, .int n] => some (T.bring p n)
  | _ => none
def S_Talk_bring : Fn := onV bkT m_bring
theorem okS_Talk_bring (T : Tx w.params K mg C A fd) : FnV (gm K C cc cv) P w K mg base 4 (A 9) (fd 9) ["self", "porch", "place"] S_Talk_bring := by
  refine okV (okB_Talk_bring (P := P) (w := w) (base := base) T) fun T rest r T' g e => ?_
  unfold m_bring at e
  split at e
  · have e' := Option.some.inj e
    obtain rfl : _ = r := congrArg Prod.fst e'
    obtain rfl : _ = T' := congrArg Prod.snd e'
    rw [chn]
    exact ⟨(.cons (.int _) (.cons (.int _) .nil)), res_bring T _ _, _, _, bring_run T g (by decide) _ _ [], lies_id _ _, by decide, rfl⟩
  · cases e
theorem tBring (T : Tk) (g : T.Good Lim) (h : VH) (n : Nat) (e : h[n]? = some (.tk T)) (p i : Int) : S_Talk_bring (.ref n :: [.int p, .int i]) h = some ((T.bring p i).1, h.set n (.tk (T.bring p i).2)) := onV_eq (k := bkT) (T := T) e rfl g rfl
def m_lose : Mth := fun T rest => match rest with
  | [.int p, .int n] => some (T.lose p n)
  | _ => none
def S_Talk_lose : Fn := onV bkT m_lose
theorem okS_Talk_lose (T : Tx w.params K mg C A fd) : FnV (gm K C cc cv) P w K mg base 4 (A 10) (fd 10) ["self", "porch", "place"] S_Talk_lose := by
  refine okV (okB_Talk_lose (P := P) (w := w) (base := base) T) fun T rest r T' g e => ?_
  unfold m_lose at e
  split at e
  · have e' := Option.some.inj e
    obtain rfl : _ = r := congrArg Prod.fst e'
    obtain rfl : _ = T' := congrArg Prod.snd e'
    rw [chn]
    exact ⟨(.cons (.int _) (.cons (.int _) .nil)), res_lose T _ _, _, _, lose_run T g (by decide) _ _ [], lies_id _ _, by decide, rfl⟩
  · cases e
theorem tLose (T : Tk) (g : T.Good Lim) (h : VH) (n : Nat) (e : h[n]? = some (.tk T)) (p i : Int) : S_Talk_lose (.ref n :: [.int p, .int i]) h = some ((T.lose p i).1, h.set n (.tk (T.lose p i).2)) := onV_eq (k := bkT) (T := T) e rfl g rfl
def m_rise : Mth := fun T rest => match rest with
  | [.int p] => some (T.rise p)
  | _ => none
def S_Talk_rise : Fn := onV bkT m_rise
theorem okS_Talk_rise (T : Tx w.params K mg C A fd) : FnV (gm K C cc cv) P w K mg base 3 (A 12) (fd 12) ["self", "porch"] S_Talk_rise := by
  refine okV (okB_Talk_rise (P := P) (w := w) (base := base) T) fun T rest r T' g e => ?_
  unfold m_rise at e
  split at e
  · have e' := Option.some.inj e
    obtain rfl : _ = r := congrArg Prod.fst e'
    obtain rfl : _ = T' := congrArg Prod.snd e'
    rw [chn]
    exact ⟨(.cons (.int _) .nil), res_rise T _, _, _, rise_run T _ [], lies_id _ _, by decide, rfl⟩
  · cases e
theorem tRise (T : Tk) (g : T.Good Lim) (h : VH) (n : Nat) (e : h[n]? = some (.tk T)) (p : Int) : S_Talk_rise (.ref n :: [.int p]) h = some ((T.rise p).1, h.set n (.tk (T.rise p).2)) := onV_eq (k := bkT) (T := T) e rfl g rfl
def m_fall : Mth := fun T rest => match rest with
  | [.int p] => some (T.fall p)
  | _ => none
def S_Talk_fall : Fn := onV bkT m_fall
theorem okS_Talk_fall (T : Tx w.params K mg C A fd) : FnV (gm K C cc cv) P w K mg base 3 (A 11) (fd 11) ["self", "porch"] S_Talk_fall := by
  refine okV (okB_Talk_fall (P := P) (w := w) (base := base) T) fun T rest r T' g e => ?_
  unfold m_fall at e
  split at e
  · have e' := Option.some.inj e
    obtain rfl : _ = r := congrArg Prod.fst e'
    obtain rfl : _ = T' := congrArg Prod.snd e'
    rw [chn]
    rename_i p
    by_cases h : okP p ∧ T.up p = true
    · have e1 : (T.fall p).2 = (T.sUp p false).sRd p [] := by simp [Tk.fall, h.1, h.2]
      have e2 : (T.fall p).1 = .ok (.int (T.rd p).length) := by simp [Tk.fall, h.1, h.2]
      rw [e1, e2]
      have hr := fall_run T p h.1 h.2
      refine ⟨(.cons (.int _) .nil), .int _, _, [0, 1, 2, 3, 4, if p = 0 then 8 else 5, if p = 0 then 6 else 8, 7], hr, ?_, ?_, rfl⟩
      · rcases h.1 with rfl | rfl
        · exact lies_can _ _ _ _ _ _ _ _ _ _ rfl rfl rfl rfl rfl rfl rfl rfl
        · exact lies_can _ _ _ _ _ _ _ _ _ _ rfl rfl rfl rfl rfl rfl rfl rfl
      · rcases h.1 with rfl | rfl <;> decide
    · refine ⟨(.cons (.int _) .nil), res_fall T p, _, [0, 1, 2, 3, 4, 5, 6, 7], fall_no T p h [], ?_, by decide, rfl⟩
      rw [show (T.fall p).2 = T by
        unfold Tk.fall
        split
        · rename_i hp
          rw [if_neg fun hu => h ⟨hp, hu⟩]
        · rfl]
      exact lies_id _ _
  · cases e
theorem tFall (T : Tk) (g : T.Good Lim) (h : VH) (n : Nat) (e : h[n]? = some (.tk T)) (p : Int) : S_Talk_fall (.ref n :: [.int p]) h = some ((T.fall p).1, h.set n (.tk (T.fall p).2)) := onV_eq (k := bkT) (T := T) e rfl g rfl
def m_tick : Mth := fun T rest => match rest with
  | [] => some T.tick
  | _ => none
def S_Talk_tick : Fn := onV bkT m_tick
theorem okS_Talk_tick (T : Tx w.params K mg C A fd) : FnV (gm K C cc cv) P w K mg base 1 (A 13) (fd 13) ["self"] S_Talk_tick := by
  refine okV (okB_Talk_tick (P := P) (w := w) (base := base) T) fun T rest r T' g e => ?_
  unfold m_tick at e
  split at e
  · have e' := Option.some.inj e
    obtain rfl : _ = r := congrArg Prod.fst e'
    obtain rfl : _ = T' := congrArg Prod.snd e'
    rw [chn]
    exact ⟨.nil, .int _, _, [0, 1, 2, 3, 4, 8, 9, 7], tick_run T g (by decide), lies_can _ _ _ _ _ _ _ _ _ _ rfl rfl rfl rfl rfl rfl rfl rfl, by decide, rfl⟩
  · cases e
theorem tTick (T : Tk) (g : T.Good Lim) (h : VH) (n : Nat) (e : h[n]? = some (.tk T)) : S_Talk_tick (.ref n :: []) h = some ((T.tick).1, h.set n (.tk (T.tick).2)) := onV_eq (k := bkT) (T := T) e rfl g rfl
def m_words_heard : Mth := fun T rest => match rest with
  | [] => some (.ok (.rl (T.heard.map W.int)), T)
  | _ => none
def S_Talk_words_heard : Fn := onV bkT m_words_heard
theorem okS_Talk_words_heard (T : Tx w.params K mg C A fd) : FnV (gm K C cc cv) P w K mg base 1 (A 14) (fd 14) ["self"] S_Talk_words_heard := by
  refine okV (okB_Talk_words_heard (P := P) (w := w) (base := base) T) fun T rest r T' g e => ?_
  unfold m_words_heard at e
  split at e
  · have e' := Option.some.inj e
    obtain rfl : _ = r := congrArg Prod.fst e'
    obtain rfl : _ = T' := congrArg Prod.snd e'
    rw [chn]
    exact ⟨.nil, NoR.rl (noRs_ints _), _, _, heard_run T [], lies_id _ _, by decide, rfl⟩
  · cases e
theorem tHeard (T : Tk) (g : T.Good Lim) (h : VH) (n : Nat) (e : h[n]? = some (.tk T)) : S_Talk_words_heard [.ref n] h = some (.ok (.rl (T.heard.map W.int)), h) := by
  have := onV_eq (k := bkT) (m := m_words_heard) (T := T) (rest := []) e rfl g rfl
  rw [show h.set n (bkT.bx T) = h from set_same e] at this
  exact this
def m_words_said : Mth := fun T rest => match rest with
  | [] => some (.ok (.rl (T.said.map W.int)), T)
  | _ => none
def S_Talk_words_said : Fn := onV bkT m_words_said
theorem okS_Talk_words_said (T : Tx w.params K mg C A fd) : FnV (gm K C cc cv) P w K mg base 1 (A 15) (fd 15) ["self"] S_Talk_words_said := by
  refine okV (okB_Talk_words_said (P := P) (w := w) (base := base) T) fun T rest r T' g e => ?_
  unfold m_words_said at e
  split at e
  · have e' := Option.some.inj e
    obtain rfl : _ = r := congrArg Prod.fst e'
    obtain rfl : _ = T' := congrArg Prod.snd e'
    rw [chn]
    exact ⟨.nil, NoR.rl (noRs_ints _), _, _, said_run T [], lies_id _ _, by decide, rfl⟩
  · cases e
theorem tSaid (T : Tk) (g : T.Good Lim) (h : VH) (n : Nat) (e : h[n]? = some (.tk T)) : S_Talk_words_said [.ref n] h = some (.ok (.rl (T.said.map W.int)), h) := by
  have := onV_eq (k := bkT) (m := m_words_said) (T := T) (rest := []) e rfl g rfl
  rw [show h.set n (bkT.bx T) = h from set_same e] at this
  exact this
def m_road : Mth := fun T rest => match rest with
  | [.int p] => some (Tk.roadR T p)
  | _ => none
def S_Talk_road : Fn := onV bkT m_road
theorem okS_Talk_road (T : Tx w.params K mg C A fd) : FnV (gm K C cc cv) P w K mg base 3 (A 16) (fd 16) ["self", "porch"] S_Talk_road := by
  refine okV (okB_Talk_road (P := P) (w := w) (base := base) T) fun T rest r T' g e => ?_
  unfold m_road at e
  split at e
  · have e' := Option.some.inj e
    obtain rfl : _ = r := congrArg Prod.fst e'
    obtain rfl : _ = T' := congrArg Prod.snd e'
    rw [chn]
    rename_i p
    by_cases hp : okP p
    · have e1 : Tk.roadR T p = (.ok (.rl ((T.rd p).map fun a => encL a.1)), T) := by simp [Tk.roadR, hp]
      have := res_road T p
      rw [e1] at this ⊢
      exact ⟨(.cons (.int _) .nil), this, _, _, road_run T g (by decide) p hp [], lies_id _ _, by decide, rfl⟩
    · have e1 : Tk.roadR T p = (.ex 15, T) := by simp [Tk.roadR, hp]
      rw [e1]
      exact ⟨(.cons (.int _) .nil), trivial, _, _, road_no T p hp [], lies_id _ _, by decide, rfl⟩
  · cases e
theorem tRoad (T : Tk) (g : T.Good Lim) (h : VH) (n : Nat) (e : h[n]? = some (.tk T)) (p : Int) (hp : okP p) : S_Talk_road [.ref n, .int p] h = some (.ok (.rl ((T.rd p).map fun a => encL a.1)), h) := by
  have e1 : Tk.roadR T p = (.ok (.rl ((T.rd p).map fun a => encL a.1)), T) := by simp [Tk.roadR, hp]
  have := onV_eq (k := bkT) (m := m_road) (T := T) (rest := [.int p]) (r := .ok (.rl ((T.rd p).map fun a => encL a.1))) (T' := T) e rfl g (congrArg some e1)
  rw [show h.set n (bkT.bx T) = h from set_same e] at this
  exact this
def S_Talk_init : Fn := fun ws h => match ws with
  | [.ref n, .int m, .int w, .int l] => (match h[n]? with
    | some (.pl (.ins 0 [])) => if (1 ≤ m ∧ m ≤ 16) ∧ (1 ≤ w ∧ w ≤ 3) ∧ (1 ≤ l ∧ l ≤ 4) then some (.ok .non, h.set n (.tk (Tk.fresh m w l))) else none
    | _ => none)
  | _ => none
theorem okS_Talk_init (T : Tx w.params K mg C A fd) : FnV (gm K C cc cv) P w K mg base 3 (A 2) (fd 2) ["self", "marks", "window", "life"] S_Talk_init := by
  refine FnV.box (okB_Talk_init (P := P) (w := w) (base := base) T) fun ws h r h' e => ?_
  unfold S_Talk_init at e
  split at e
  · rename_i n m w l
    split at e
    · rename_i hn
      split at e
      · rename_i hb
        cases e
        exact ⟨n, _, .tk (Tk.fresh m w l), _, _, canT (Tk.fresh m w l), _, _, [0, 1, 2, 3, 6, 4, 5, 7], [], rfl, .cons (.int _) (.cons (.int _) (.cons (.int _) .nil)), hn, rfl, init_run m w l hb.1 hb.2.1 hb.2.2, isBox_tk _, lies_can _ _ _ _ _ _ _ _ _ _ rfl rfl rfl rfl rfl rfl rfl rfl, by decide, rfl, .val .non, (List.append_nil _).symm⟩
      · cases e
    · cases e
  · cases e
theorem tMake (m w l : Int) (hb : (1 ≤ m ∧ m ≤ 16) ∧ (1 ≤ w ∧ w ≤ 3) ∧ (1 ≤ l ∧ l ≤ 4)) (h : VH) : S_Talk_init [.ref h.length, .int m, .int w, .int l] (h ++ [.pl (.ins 0 [])]) = some (.ok .non, h ++ [.tk (Tk.fresh m w l)]) := by
  simp [S_Talk_init, hb]
end Pr


namespace Pr
open PySem PySem.Spec PyProof.Rows L2 Tw
variable {P : Program} {w : World} {K : PySem.W.Frag} {mg : Str → Option Value} {C A : Nat → Addr} {fd : Nat → FuncData} {base : Heap} {cc : Addr} {cv : Option (Option V)}
noncomputable section
theorem sc_do_deed : FnScope N_do_deed ["talk", "deed"] (defScope s_do_deed) := ⟨rfl, rfl, rfl, by decide +kernel, rfl, by decide +kernel, by decide +kernel⟩
def F_do_deed : FSt := (fSeq (fSet 2 (fBin gIx (fVar 1) (fC (.int 0))))
    (fIfS (fB (fBin gEq (fVar 2) (fC (.str "say")))) (fDo (fMeth 0 S_Talk_say (fVar 0) [(fBin gIx (fVar 1) (fC (.int 1)))])) (fIfS (fB (fBin gEq (fVar 2) (fC (.str "post")))) (fDo (fMeth 0 S_Talk_post (fVar 0) [(fBin gIx (fVar 1) (fC (.int 1))), (fBin gIx (fVar 1) (fC (.int 2)))])) (fIfS (fB (fBin gEq (fVar 2) (fC (.str "answer")))) (fDo (fMeth 0 S_Talk_answer (fVar 0) [(fBin gIx (fVar 1) (fC (.int 1)))])) (fIfS (fB (fBin gEq (fVar 2) (fC (.str "bring")))) (fDo (fMeth 0 S_Talk_bring (fVar 0) [(fBin gIx (fVar 1) (fC (.int 1))), (fBin gIx (fVar 1) (fC (.int 2)))])) (fIfS (fB (fBin gEq (fVar 2) (fC (.str "lose")))) (fDo (fMeth 0 S_Talk_lose (fVar 0) [(fBin gIx (fVar 1) (fC (.int 1))), (fBin gIx (fVar 1) (fC (.int 2)))])) (fIfS (fB (fBin gEq (fVar 2) (fC (.str "fall")))) (fDo (fMeth 0 S_Talk_fall (fVar 0) [(fBin gIx (fVar 1) (fC (.int 1)))])) (fIfS (fB (fBin gEq (fVar 2) (fC (.str "rise")))) (fDo (fMeth 0 S_Talk_rise (fVar 0) [(fBin gIx (fVar 1) (fC (.int 1)))])) (fDo (fMeth 0 S_Talk_tick (fVar 0) []))))))))))
def B_do_deed : Fn := runB 3 2 F_do_deed
theorem okB_do_deed (T : Tx w.params K mg C A fd) : FnV (gm K C cc cv) P w K mg base 5 (A 17) (fd 17) ["talk", "deed"] B_do_deed := by
  have okS_Talk_say := okS_Talk_say (P := P) (w := w) (base := base) (cc := cc) (cv := cv) T
  have okS_Talk_post := okS_Talk_post (P := P) (w := w) (base := base) (cc := cc) (cv := cv) T
  have okS_Talk_answer := okS_Talk_answer (P := P) (w := w) (base := base) (cc := cc) (cv := cv) T
  have okS_Talk_bring := okS_Talk_bring (P := P) (w := w) (base := base) (cc := cc) (cv := cv) T
  have okS_Talk_lose := okS_Talk_lose (P := P) (w := w) (base := base) (cc := cc) (cv := cv) T
  have okS_Talk_fall := okS_Talk_fall (P := P) (w := w) (base := base) (cc := cc) (cv := cv) T
  have okS_Talk_rise := okS_Talk_rise (P := P) (w := w) (base := base) (cc := cc) (cv := cv) T
  have okS_Talk_tick := okS_Talk_tick (P := P) (w := w) (base := base) (cc := cc) (cv := cv) T
  exact fnV_of rfl T.f_do_deed sc_do_deed (fun cdv A' outer s H E hr tk hp =>
    (sss_cons (ss_set 2 sc_do_deed.nd (se_ix ix_w sim_ix (se_var 1) se_int))
      (sss_one (ss_if (st_cmp (op_eqD hr.units) sim_eq (se_var 2) se_str) (sss_one (ss_expr (se_meth 0 (se_var 0) T.cl_0 T.m_Talk_say (show ("say" : Str) ∉ flOf 0 by decide +kernel) okS_Talk_say (hr.mono (by decide)) T.b_Talk_say tk (sa_cons (se_ix ix_w sim_ix (se_var 1) se_int) sa_nil)))) (sss_one (ss_if (st_cmp (op_eqD hr.units) sim_eq (se_var 2) se_str) (sss_one (ss_expr (se_meth 0 (se_var 0) T.cl_0 T.m_Talk_post (show ("post" : Str) ∉ flOf 0 by decide +kernel) okS_Talk_post (hr.mono (by decide)) T.b_Talk_post tk (sa_cons (se_ix ix_w sim_ix (se_var 1) se_int) (sa_cons (se_ix ix_w sim_ix (se_var 1) se_int) sa_nil))))) (sss_one (ss_if (st_cmp (op_eqD hr.units) sim_eq (se_var 2) se_str) (sss_one (ss_expr (se_meth 0 (se_var 0) T.cl_0 T.m_Talk_answer (show ("answer" : Str) ∉ flOf 0 by decide +kernel) okS_Talk_answer (hr.mono (by decide)) T.b_Talk_answer tk (sa_cons (se_ix ix_w sim_ix (se_var 1) se_int) sa_nil)))) (sss_one (ss_if (st_cmp (op_eqD hr.units) sim_eq (se_var 2) se_str) (sss_one (ss_expr (se_meth 0 (se_var 0) T.cl_0 T.m_Talk_bring (show ("bring" : Str) ∉ flOf 0 by decide +kernel) okS_Talk_bring (hr.mono (by decide)) T.b_Talk_bring tk (sa_cons (se_ix ix_w sim_ix (se_var 1) se_int) (sa_cons (se_ix ix_w sim_ix (se_var 1) se_int) sa_nil))))) (sss_one (ss_if (st_cmp (op_eqD hr.units) sim_eq (se_var 2) se_str) (sss_one (ss_expr (se_meth 0 (se_var 0) T.cl_0 T.m_Talk_lose (show ("lose" : Str) ∉ flOf 0 by decide +kernel) okS_Talk_lose (hr.mono (by decide)) T.b_Talk_lose tk (sa_cons (se_ix ix_w sim_ix (se_var 1) se_int) (sa_cons (se_ix ix_w sim_ix (se_var 1) se_int) sa_nil))))) (sss_one (ss_if (st_cmp (op_eqD hr.units) sim_eq (se_var 2) se_str) (sss_one (ss_expr (se_meth 0 (se_var 0) T.cl_0 T.m_Talk_fall (show ("fall" : Str) ∉ flOf 0 by decide +kernel) okS_Talk_fall (hr.mono (by decide)) T.b_Talk_fall tk (sa_cons (se_ix ix_w sim_ix (se_var 1) se_int) sa_nil)))) (sss_one (ss_if (st_cmp (op_eqD hr.units) sim_eq (se_var 2) se_str) (sss_one (ss_expr (se_meth 0 (se_var 0) T.cl_0 T.m_Talk_rise (show ("rise" : Str) ∉ flOf 0 by decide +kernel) okS_Talk_rise (hr.mono (by decide)) T.b_Talk_rise tk (sa_cons (se_ix ix_w sim_ix (se_var 1) se_int) sa_nil)))) (sss_one (ss_expr (se_meth0 0 (se_var 0) T.cl_0 T.m_Talk_tick (show ("tick" : Str) ∉ flOf 0 by decide +kernel) okS_Talk_tick (hr.mono (by decide)) T.b_Talk_tick tk)))))))))))))))))))
theorem sc_play : FnScope N_play ["marks", "window", "life", "story"] (defScope s_play) := ⟨rfl, rfl, rfl, by decide +kernel, rfl, by decide +kernel, by decide +kernel⟩
def F_play : FSt := (fSeq (fSet 4 (fMake 0 S_Talk_init [(fVar 0), (fVar 1), (fVar 2)]))
    (fSeq (fFor (fIe (fVar 3)) (gtTup (gtCons 5 (gtCons 6 gtNil))) (fTry catE (fDo (fCall B_do_deed [(fVar 4), (fVar 6)])) (fRet (fTup [(fVar 4), (fVar 5)]))))
    (fRet (fTup [(fVar 4), (fC .non)]))))
def B_play : Fn := runB 7 4 F_play
theorem okB_play (T : Tx w.params K mg C A fd) : FnV (gm K C cc cv) P w K mg base 6 (A 18) (fd 18) ["marks", "window", "life", "story"] B_play := by
  have okS_Talk_init := okS_Talk_init (P := P) (w := w) (base := base) (cc := cc) (cv := cv) T
  have okB_do_deed := okB_do_deed (P := P) (w := w) (base := base) (cc := cc) (cv := cv) T
  exact fnV_of rfl T.f_play sc_play (fun cdv A' outer s H E hr tk hp =>
    (sss_cons (ss_set 4 sc_play.nd (se_make 0 T.mk_0 okS_Talk_init (show (flOf 0).Nodup ∧ (flOf 0).length ≤ 500 by decide +kernel) (hr.mono (by decide)) (by rfl) T.gc_0 T.b_Talk_init tk (sa_cons (se_var 0) (sa_cons (se_var 1) (sa_cons (se_var 2) sa_nil)))))
      (sss_cons (ss_for hp rfl (si_enum rfl (by rfl) T.nb_enumerate (se_var 3)) (pg_tup rfl (pgs_cons (pgn 5 sc_play.nd) (pgs_cons (pgn 6 sc_play.nd) pgs_nil))) (sim_gtup (sim_gcons 5 (sim_gcons 6 sim_gnil)) (gt_len (gt_len gtNil_len))) (sss_one (ss_try rfl rfl ⟨by rfl, by decide, .inl T.gc_10⟩ tk T.cat (fun W' pn xe tk' hp' => (sss_one (ss_expr (se_call okB_do_deed (hr.mono (by decide)) (by rfl) T.g_do_deed T.f_do_deed.kp T.b_do_deed tk' (sa_cons (se_var 4) (sa_cons (se_var 6) sa_nil)))))) (fun c a oe pn hz hd => (sss_one (ss_ret (se_tup (sa_cons (se_var 4) (sa_cons (se_var 5) sa_nil)))))))))
      (sss_one (ss_ret (se_tup (sa_cons (se_var 4) (sa_cons se_non sa_nil))))))))
theorem sc_Sure_shows : FnScope N_Sure_shows ["self", "marks", "window", "life"] (defScope s_Sure_shows) := ⟨rfl, rfl, rfl, by decide +kernel, rfl, by decide +kernel, by decide +kernel⟩
def F_Sure_shows : FSt := (fRet (fBin gGe (fVar 1) (fBin gAddR (fBin gMul (fC (.int 2)) (fVar 2)) (fVar 3))))
def B_Sure_shows : Fn := runB 4 4 F_Sure_shows
theorem okB_Sure_shows (T : Tx w.params K mg C A fd) : FnV (gm K C cc cv) P w K mg base 1 (A 19) (fd 19) ["self", "marks", "window", "life"] B_Sure_shows := by
  exact fnV_of rfl T.f_Sure_shows sc_Sure_shows (fun cdv A' outer s H E hr tk hp =>
    (sss_one (ss_ret (se_cmp op_ge (sim_rel _) (se_var 1) (se_opF op_addR sim_addR (se_op op_mulW2 sim_mul se_int (se_var 2)) (se_var 3))))))
theorem sc_Fooled_init : FnScope N_Fooled_init ["self", "story"] (defScope s_Fooled_init) := ⟨rfl, rfl, rfl, by decide +kernel, rfl, by decide +kernel, by decide +kernel⟩
def F_Fooled_init : FSt := (fSetF 4 0 (fVar 0) (fCB gList [(fVar 1)]))
def B_Fooled_init : Fn := runB 2 2 F_Fooled_init
theorem okB_Fooled_init (T : Tx w.params K mg C A fd) : FnV (gm K C cc cv) P w K mg base 1 (A 20) (fd 20) ["self", "story"] B_Fooled_init := by
  exact fnV_of rfl T.f_Fooled_init sc_Fooled_init (fun cdv A' outer s H E hr tk hp =>
    (sss_one (ss_setF 4 0 T.cl_4 T.na_4_story rfl rfl (se_var 0) (se_ct call_list_of sim_list (by rfl) T.nb_list bb_list (sa_cons (se_var 1) sa_nil)))))
theorem sc_Fooled_shows : FnScope N_Fooled_shows ["self", "marks", "window", "life"] (defScope s_Fooled_shows) := ⟨rfl, rfl, rfl, by decide +kernel, rfl, by decide +kernel, by decide +kernel⟩
def F_Fooled_shows : FSt := (fSeq (fAsg (gtTup (gtCons 4 (gtCons 5 gtNil))) (fCall B_play [(fVar 1), (fVar 2), (fVar 3), (fFld 4 0 (fVar 0))]))
    (fSeq (fSet 6 (fMeth 0 S_Talk_words_heard (fVar 4) []))
    (fRet (fAndV (fBin gIsN (fVar 5) (fC .non)) (fBin gNe (fVar 6) (fSl gSlR (fMeth 0 S_Talk_words_said (fVar 4) []) fNo (fPart (fCB gLen [(fVar 6)]))))))))
def B_Fooled_shows : Fn := runB 7 4 F_Fooled_shows
theorem okB_Fooled_shows (T : Tx w.params K mg C A fd) : FnV (gm K C cc cv) P w K mg base 7 (A 21) (fd 21) ["self", "marks", "window", "life"] B_Fooled_shows := by
  have okB_play := okB_play (P := P) (w := w) (base := base) (cc := cc) (cv := cv) T
  have okS_Talk_words_heard := okS_Talk_words_heard (P := P) (w := w) (base := base) (cc := cc) (cv := cv) T
  have okS_Talk_words_said := okS_Talk_words_said (P := P) (w := w) (base := base) (cc := cc) (cv := cv) T
  exact fnV_of rfl T.f_Fooled_shows sc_Fooled_shows (fun cdv A' outer s H E hr tk hp =>
    (sss_cons (ss_asg (se_call okB_play (hr.mono (by decide)) (by rfl) T.g_play T.f_play.kp T.b_play tk (sa_cons (se_var 1) (sa_cons (se_var 2) (sa_cons (se_var 3) (sa_cons (se_fld 4 0 T.cl_4 T.na_4_story rfl rfl (se_var 0)) sa_nil))))) (pg_tup rfl (pgs_cons (pgn 4 sc_Fooled_shows.nd) (pgs_cons (pgn 5 sc_Fooled_shows.nd) pgs_nil))) (sim_gtup (sim_gcons 4 (sim_gcons 5 sim_gnil)) (gt_len (gt_len gtNil_len))))
      (sss_cons (ss_set 6 sc_Fooled_shows.nd (se_meth0 0 (se_var 4) T.cl_0 T.m_Talk_words_heard (show ("words_heard" : Str) ∉ flOf 0 by decide +kernel) okS_Talk_words_heard (hr.mono (by decide)) T.b_Talk_words_heard tk))
      (sss_one (ss_ret (se_and (se_cmp op_isN sim_isN (se_var 5) se_non) (se_one (se_cmp (op_neD hr.units) sim_ne (se_var 6) (se_slR rfl (se_meth0 0 (se_var 4) T.cl_0 T.m_Talk_words_said (show ("words_said" : Str) ∉ flOf 0 by decide +kernel) okS_Talk_words_said (hr.mono (by decide)) T.b_Talk_words_said tk) so_none (so_some (se_cb cr_lenW sim_len (by rfl) T.nb_len bb_len (sa_cons (se_var 6) sa_nil))))))))))))
theorem sc_Done_init : FnScope N_Done_init ["self", "words"] (defScope s_Done_init) := ⟨rfl, rfl, rfl, by decide +kernel, rfl, by decide +kernel, by decide +kernel⟩
def F_Done_init : FSt := (fSetF 1 0 (fVar 0) (fCB gList [(fVar 1)]))
def B_Done_init : Fn := runB 2 2 F_Done_init
theorem okB_Done_init (T : Tx w.params K mg C A fd) : FnV (gm K C cc cv) P w K mg base 1 (A 22) (fd 22) ["self", "words"] B_Done_init := by
  exact fnV_of rfl T.f_Done_init sc_Done_init (fun cdv A' outer s H E hr tk hp =>
    (sss_one (ss_setF 1 0 T.cl_1 T.na_1_words rfl rfl (se_var 0) (se_ct call_list_of sim_list (by rfl) T.nb_list bb_list (sa_cons (se_var 1) sa_nil)))))
theorem sc_Done_shows : FnScope N_Done_shows ["self", "marks", "window", "life", "story"] (defScope s_Done_shows) := ⟨rfl, rfl, rfl, by decide +kernel, rfl, by decide +kernel, by decide +kernel⟩
def F_Done_shows : FSt := (fSeq (fAsg (gtTup (gtCons 5 (gtCons 6 gtNil))) (fCall B_play [(fVar 1), (fVar 2), (fVar 3), (fVar 4)]))
    (fRet (fAndV (fBin gIsN (fVar 6) (fC .non)) (fBin gEq (fFld 1 0 (fVar 0)) (fMeth 0 S_Talk_words_heard (fVar 5) [])))))
def B_Done_shows : Fn := runB 7 5 F_Done_shows
theorem okB_Done_shows (T : Tx w.params K mg C A fd) : FnV (gm K C cc cv) P w K mg base 7 (A 23) (fd 23) ["self", "marks", "window", "life", "story"] B_Done_shows := by
  have okB_play := okB_play (P := P) (w := w) (base := base) (cc := cc) (cv := cv) T
  have okS_Talk_words_heard := okS_Talk_words_heard (P := P) (w := w) (base := base) (cc := cc) (cv := cv) T
  exact fnV_of rfl T.f_Done_shows sc_Done_shows (fun cdv A' outer s H E hr tk hp =>
    (sss_cons (ss_asg (se_call okB_play (hr.mono (by decide)) (by rfl) T.g_play T.f_play.kp T.b_play tk (sa_cons (se_var 1) (sa_cons (se_var 2) (sa_cons (se_var 3) (sa_cons (se_var 4) sa_nil))))) (pg_tup rfl (pgs_cons (pgn 5 sc_Done_shows.nd) (pgs_cons (pgn 6 sc_Done_shows.nd) pgs_nil))) (sim_gtup (sim_gcons 5 (sim_gcons 6 sim_gnil)) (gt_len (gt_len gtNil_len))))
      (sss_one (ss_ret (se_and (se_cmp op_isN sim_isN (se_var 6) se_non) (se_one (se_cmp (op_eqD hr.units) sim_eq (se_fld 1 0 T.cl_1 T.na_1_words rfl rfl (se_var 0)) (se_meth0 0 (se_var 5) T.cl_0 T.m_Talk_words_heard (show ("words_heard" : Str) ∉ flOf 0 by decide +kernel) okS_Talk_words_heard (hr.mono (by decide)) T.b_Talk_words_heard tk))))))))
noncomputable def T_Done_shows : Fn := trimC B_Done_shows
theorem okT_Done_shows (T : Tx w.params K mg C A fd) : FnV (gm K C cc cv) P w K mg base 7 (A 23) (fd 23) ["self", "marks", "window", "life", "story"] T_Done_shows := okTrim (okB_Done_shows T)
theorem sc_Halt_init : FnScope N_Halt_init ["self", "place"] (defScope s_Halt_init) := ⟨rfl, rfl, rfl, by decide +kernel, rfl, by decide +kernel, by decide +kernel⟩
def F_Halt_init : FSt := (fSetF 2 0 (fVar 0) (fVar 1))
def B_Halt_init : Fn := runB 2 2 F_Halt_init
theorem okB_Halt_init (T : Tx w.params K mg C A fd) : FnV (gm K C cc cv) P w K mg base 1 (A 24) (fd 24) ["self", "place"] B_Halt_init := by
  exact fnV_of rfl T.f_Halt_init sc_Halt_init (fun cdv A' outer s H E hr tk hp =>
    (sss_one (ss_setF 2 0 T.cl_2 T.na_2_place rfl rfl (se_var 0) (se_var 1))))
theorem sc_Halt_shows : FnScope N_Halt_shows ["self", "marks", "window", "life", "story"] (defScope s_Halt_shows) := ⟨rfl, rfl, rfl, by decide +kernel, rfl, by decide +kernel, by decide +kernel⟩
def F_Halt_shows : FSt := (fSeq (fSet 5 (fBin gIx (fCall B_play [(fVar 1), (fVar 2), (fVar 3), (fVar 4)]) (fC (.int 1))))
    (fRet (fAndV (fBin gNotN (fVar 5) (fC .non)) (fBin gEq (fFld 2 0 (fVar 0)) (fVar 5)))))
def B_Halt_shows : Fn := runB 6 5 F_Halt_shows
theorem okB_Halt_shows (T : Tx w.params K mg C A fd) : FnV (gm K C cc cv) P w K mg base 7 (A 25) (fd 25) ["self", "marks", "window", "life", "story"] B_Halt_shows := by
  have okB_play := okB_play (P := P) (w := w) (base := base) (cc := cc) (cv := cv) T
  exact fnV_of rfl T.f_Halt_shows sc_Halt_shows (fun cdv A' outer s H E hr tk hp =>
    (sss_cons (ss_set 5 sc_Halt_shows.nd (se_ix ix_w sim_ix (se_call okB_play (hr.mono (by decide)) (by rfl) T.g_play T.f_play.kp T.b_play tk (sa_cons (se_var 1) (sa_cons (se_var 2) (sa_cons (se_var 3) (sa_cons (se_var 4) sa_nil))))) se_int))
      (sss_one (ss_ret (se_and (se_cmp op_notN sim_notN (se_var 5) se_non) (se_one (se_cmp (op_eqD hr.units) sim_eq (se_fld 2 0 T.cl_2 T.na_2_place rfl rfl (se_var 0)) (se_var 5))))))))
noncomputable def T_Halt_shows : Fn := trimC B_Halt_shows
theorem okT_Halt_shows (T : Tx w.params K mg C A fd) : FnV (gm K C cc cv) P w K mg base 7 (A 25) (fd 25) ["self", "marks", "window", "life", "story"] T_Halt_shows := okTrim (okB_Halt_shows T)
theorem sc_is_deed : FnScope N_is_deed ["thing"] (defScope s_is_deed) := ⟨rfl, rfl, rfl, by decide +kernel, rfl, by decide +kernel, by decide +kernel⟩
def F_is_deed : FSt := (fSeq (fIfS (fOrT (fNotT (fB (fIsi "tuple" (fVar 0)))) (fOrT (fB (fBin gEq (fVar 0) (fTup []))) (fNotT (fB (fIsi "str" (fBin gIx (fVar 0) (fC (.int 0)))))))) (fRet (fC (.bl false))) fNil)
    (fRet (fAndV (fBin gEq (fWget tab_SIZES (fBin gIx (fVar 0) (fC (.int 0))) 0) (fCB gLen [(fVar 0)])) (fCB gAll [(fLcR (fIt (fSl gSlR (fVar 0) (fPart (fC (.int 1))) fNo)) 1 [1] fYes (fCall B_is_whole [(fVar 1)]))]))))
def B_is_deed : Fn := runB 2 1 F_is_deed
theorem okB_is_deed (T : Tx w.params K mg C A fd) : FnV (gm K C cc cv) P w K mg base 2 (A 26) (fd 26) ["thing"] B_is_deed := by
  have okB_is_whole := okB_is_whole (P := P) (w := w) (base := base) (cc := cc) (cv := cv) T
  exact fnV_of rfl T.f_is_deed sc_is_deed (fun cdv A' outer s H E hr tk hp =>
    (sss_cons (ss_if (PW.pt (sw_or (st_not (st_val (se_isi "tuple" rfl (by rfl) T.nb_isinstance (by rfl) T.nb_tuple bb_tuple (he := (se_var 0))))) (sw_or (st_cmp (op_eqD hr.units) sim_eq (se_var 0) (se_tup sa_nil)) (sw_or1 (st_not (st_val (se_isi "str" rfl (by rfl) T.nb_isinstance (by rfl) T.nb_str bb_str (he := (se_ix ix_w sim_ix (se_var 0) se_int))))))))) (sss_one (ss_ret se_bl)) sss_nil)
      (sss_one (ss_ret (se_and (se_cmp (op_eqD hr.units) sim_eq (se_wget T.wd_SIZES (by rfl) T.wg_SIZES (se_ix ix_w sim_ix (se_var 0) se_int) ⟨rfl, rfl, rfl, rfl⟩) (se_cb cr_lenW sim_len (by rfl) T.nb_len bb_len (sa_cons (se_var 0) sa_nil))) (se_one (se_cb (cr_all rfl) sim_all (by rfl) T.nb_all bb_all (sa_cons (se_lcR rfl sc_is_deed.nd [("one", 1)] rfl (si_tup rfl (se_slR rfl (se_var 0) (so_some se_int) so_none)) (blkOk_by (own := [("one", 1)]) (N := N_is_deed) (sc := defScope s_is_deed) (by decide +kernel)) (by decide) (fun _ _ _ _ _ => pgn 1 sc_is_deed.nd) (fun _ _ _ _ _ => sts_nil) (fun _ _ _ _ _ => (se_call okB_is_whole (hr.mono (by decide)) (by rfl) T.g_is_whole T.f_is_whole.kp T.b_is_whole takesN (sa_cons (se_var 1) sa_nil)))) sa_nil))))))))
theorem sc_told : FnScope N_told ["marks", "window", "life", "story"] (defScope s_told) := ⟨rfl, rfl, rfl, by decide +kernel, rfl, by decide +kernel, by decide +kernel⟩
def F_told : FSt := (fSeq (fDo (fCall B_asked_bounds [(fVar 0), (fVar 1), (fVar 2)]))
    (fSeq (fIfS (fOrT (fNotT (fB (fIsi "list" (fVar 3)))) (fOrT (fB (fBin gGt (fCB gLen [(fVar 3)]) (fC (.int 200)))) (fNotT (fB (fCB gAll [(fLcR (fIl (fVar 3)) 6 [6] fYes (fCall B_is_deed [(fVar 6)]))]))))) (fRaise 18) fNil)
    (fSeq (fAsg (gtTup (gtCons 4 (gtCons 5 gtNil))) (fCall B_play [(fVar 0), (fVar 1), (fVar 2), (fVar 3)]))
    (fRet (fIf (fB (fBin gIsN (fVar 5) (fC .non))) (fMake 1 B_Done_init [(fMeth 0 S_Talk_words_heard (fVar 4) [])]) (fMake 2 B_Halt_init [(fVar 5)]))))))
def B_told : Fn := runB 7 4 F_told
theorem okB_told (T : Tx w.params K mg C A fd) : FnV (gm K C cc cv) P w K mg base 7 (A 27) (fd 27) ["marks", "window", "life", "story"] B_told := by
  have okB_asked_bounds := okB_asked_bounds (P := P) (w := w) (base := base) (cc := cc) (cv := cv) T
  have okB_play := okB_play (P := P) (w := w) (base := base) (cc := cc) (cv := cv) T
  have okB_Done_init := okB_Done_init (P := P) (w := w) (base := base) (cc := cc) (cv := cv) T
  have okB_Halt_init := okB_Halt_init (P := P) (w := w) (base := base) (cc := cc) (cv := cv) T
  have okS_Talk_words_heard := okS_Talk_words_heard (P := P) (w := w) (base := base) (cc := cc) (cv := cv) T
  have okB_is_deed := okB_is_deed (P := P) (w := w) (base := base) (cc := cc) (cv := cv) T
  exact fnV_of rfl T.f_told sc_told (fun cdv A' outer s H E hr tk hp =>
    (sss_cons (ss_expr (se_call okB_asked_bounds (hr.mono (by decide)) (by rfl) T.g_asked_bounds T.f_asked_bounds.kp T.b_asked_bounds tk (sa_cons (se_var 0) (sa_cons (se_var 1) (sa_cons (se_var 2) sa_nil)))))
      (sss_cons (ss_if (PW.pt (sw_or (st_not (st_val (se_isi "list" rfl (by rfl) T.nb_isinstance (by rfl) T.nb_list bb_list (he := (se_var 3))))) (sw_or (st_cmp op_gt (sim_rel _) (se_cb cr_lenW sim_len (by rfl) T.nb_len bb_len (sa_cons (se_var 3) sa_nil)) (se_globI (by rfl) T.c_LONGEST.choose_spec)) (sw_or1 (st_not (st_val (se_cb (cr_all rfl) sim_all (by rfl) T.nb_all bb_all (sa_cons (se_lcR rfl sc_told.nd [("deed", 6)] rfl (si_list rfl (se_var 3)) (blkOk_by (own := [("deed", 6)]) (N := N_told) (sc := defScope s_told) (by decide +kernel)) (by decide) (fun _ _ _ _ _ => pgn 6 sc_told.nd) (fun _ _ _ _ _ => sts_nil) (fun _ _ _ _ _ => (se_call okB_is_deed (hr.mono (by decide)) (by rfl) T.g_is_deed T.f_is_deed.kp T.b_is_deed takesN (sa_cons (se_var 6) sa_nil)))) sa_nil)))))))) (sss_one (ss_raise 18 rfl tk T.xx_18 T.gc_18 T.xk_18 (raises_own T.xb_18 T.xt_18) (by rfl))) sss_nil)
      (sss_cons (ss_asg (se_call okB_play (hr.mono (by decide)) (by rfl) T.g_play T.f_play.kp T.b_play tk (sa_cons (se_var 0) (sa_cons (se_var 1) (sa_cons (se_var 2) (sa_cons (se_var 3) sa_nil))))) (pg_tup rfl (pgs_cons (pgn 4 sc_told.nd) (pgs_cons (pgn 5 sc_told.nd) pgs_nil))) (sim_gtup (sim_gcons 4 (sim_gcons 5 sim_gnil)) (gt_len (gt_len gtNil_len))))
      (sss_one (ss_ret (se_if (st_cmp op_isN sim_isN (se_var 5) se_non) (se_make 1 T.mk_1 okB_Done_init (show (flOf 1).Nodup ∧ (flOf 1).length ≤ 500 by decide +kernel) (hr.mono (by decide)) (by rfl) T.gc_1 T.b_Done_init tk (sa_cons (se_meth0 0 (se_var 4) T.cl_0 T.m_Talk_words_heard (show ("words_heard" : Str) ∉ flOf 0 by decide +kernel) okS_Talk_words_heard (hr.mono (by decide)) T.b_Talk_words_heard tk) sa_nil)) (se_make 2 T.mk_2 okB_Halt_init (show (flOf 2).Nodup ∧ (flOf 2).length ≤ 500 by decide +kernel) (hr.mono (by decide)) (by rfl) T.gc_2 T.b_Halt_init tk (sa_cons (se_var 5) sa_nil)))))))))
theorem sc_heard_one : FnScope N_heard_one ["number"] (defScope s_heard_one) := ⟨rfl, rfl, rfl, by decide +kernel, rfl, by decide +kernel, by decide +kernel⟩
def F_heard_one : FSt := (fRet (fLstR [(fTup [(fC (.str "say")), (fVar 0)]), (fTup [(fC (.str "post")), (fC (.int 0)), (fVar 0)]), (fTup [(fC (.str "bring")), (fC (.int 0)), (fC (.int 0))])]))
def B_heard_one : Fn := runB 1 1 F_heard_one
theorem okB_heard_one (T : Tx w.params K mg C A fd) : FnV (gm K C cc cv) P w K mg base 1 (A 28) (fd 28) ["number"] B_heard_one := by
  exact fnV_of rfl T.f_heard_one sc_heard_one (fun cdv A' outer s H E hr tk hp =>
    (sss_one (ss_ret (se_lstR (sa_cons (se_tup (sa_cons se_str (sa_cons (se_var 0) sa_nil))) (sa_cons (se_tup (sa_cons se_str (sa_cons se_int (sa_cons (se_var 0) sa_nil)))) (sa_cons (se_tup (sa_cons se_str (sa_cons se_int (sa_cons se_int sa_nil)))) sa_nil)))))))
theorem sc_answered : FnScope N_answered [] (defScope s_answered) := ⟨rfl, rfl, rfl, by decide +kernel, rfl, by decide +kernel, by decide +kernel⟩
def F_answered : FSt := (fRet (fLstR [(fTup [(fC (.str "answer")), (fC (.int 0))]), (fTup [(fC (.str "bring")), (fC (.int 0)), (fC (.int 0))])]))
def B_answered : Fn := runB 0 0 F_answered
theorem okB_answered (T : Tx w.params K mg C A fd) : FnV (gm K C cc cv) P w K mg base 1 (A 29) (fd 29) [] B_answered := by
  exact fnV_of rfl T.f_answered sc_answered (fun cdv A' outer s H E hr tk hp =>
    (sss_one (ss_ret (se_lstR (sa_cons (se_tup (sa_cons se_str (sa_cons se_int sa_nil))) (sa_cons (se_tup (sa_cons se_str (sa_cons se_int (sa_cons se_int sa_nil)))) sa_nil))))))
theorem sc_story_of : FnScope N_story_of ["marks", "window", "life"] (defScope s_story_of) := ⟨rfl, rfl, rfl, by decide +kernel, rfl, by decide +kernel, by decide +kernel⟩
def F_story_of : FSt := (fSeq (fSet 3 (fCB gMax [(fC (.int 1)), (fBin gAddR (fBin gSub (fVar 0) (fVar 1)) (fC (.int 1)))]))
    (fSeq (fSet 4 (fLst []))
    (fSeq (fFor (fIr1 (fCB gMin [(fVar 3), (fVar 1)])) (gtName 5) (fSet 4 (fBin gAddO (fBin gAddR (fVar 4) (fCall B_heard_one [(fVar 5)])) (fLstR [(fTup [(fC (.str "tick"))])]))))
    (fSeq (fDo (fLM gApp (fVar 4) [(fTup [(fC (.str "post")), (fC (.int 1)), (fC (.int 0))])]))
    (fSeq (fIfS (fB (fBin gGt (fVar 3) (fVar 1))) (fSeq (fSet 4 (fBin gAddO (fVar 4) (fCall B_answered [])))
    (fFor (fIr2 (fVar 1) (fVar 3)) (gtName 5) (fSet 4 (fBin gAddO (fBin gAddR (fBin gAddR (fVar 4) (fIf (fB (fBin gGt (fVar 5) (fVar 1))) (fLstR [(fTup [(fC (.str "tick"))])]) (fLstR []))) (fCall B_heard_one [(fVar 5)])) (fCall B_answered []))))) fNil)
    (fSeq (fDo (fLM gApp (fVar 4) [(fTup [(fC (.str "bring")), (fC (.int 1)), (fC (.int 0))])]))
    (fSeq (fIfS (fB (fBin gLe (fVar 3) (fVar 1))) (fSet 4 (fBin gAddO (fVar 4) (fCall B_answered []))) fNil)
    (fSeq (fFor (fIr2 (fVar 3) (fVar 0)) (gtName 5) (fSeq (fIfS (fOrT (fB (fBin gGt (fVar 5) (fVar 3))) (fB (fBin gGt (fVar 3) (fVar 1)))) (fDo (fLM gApp (fVar 4) [(fTup [(fC (.str "tick"))])])) fNil)
    (fSet 4 (fBin gAddO (fBin gAddR (fVar 4) (fCall B_heard_one [(fVar 5)])) (fCall B_answered [])))))
    (fRet (fFz (fVar 4)))))))))))
def B_story_of : Fn := runB 6 3 F_story_of
theorem okB_story_of (T : Tx w.params K mg C A fd) : FnV (gm K C cc cv) P w K mg base 2 (A 30) (fd 30) ["marks", "window", "life"] B_story_of := by
  have okB_answered := okB_answered (P := P) (w := w) (base := base) (cc := cc) (cv := cv) T
  have okB_heard_one := okB_heard_one (P := P) (w := w) (base := base) (cc := cc) (cv := cv) T
  exact fnV_of rfl T.f_story_of sc_story_of (fun cdv A' outer s H E hr tk hp =>
    (sss_cons (ss_set 3 sc_story_of.nd (se_cb (call_max2 rfl) sim_max (by rfl) T.nb_max bb_max (sa_cons se_int (sa_cons (se_opF op_addR sim_addR (se_op op_sub sim_sub (se_var 0) (se_var 1)) se_int) sa_nil))))
      (sss_cons (ss_set 4 sc_story_of.nd (se_lst sa_nil))
      (sss_cons (ss_for hp rfl (si_range1 (by rfl) T.nb_range (se_cb (call_min2 rfl) sim_min (by rfl) T.nb_min bb_min (sa_cons (se_var 3) (sa_cons (se_var 1) sa_nil)))) (pgn 5 sc_story_of.nd) (sim_gname 5) (sss_one (ss_set 4 sc_story_of.nd (se_op op_addR sim_addO (se_opF op_addR sim_addR (se_var 4) (se_call okB_heard_one (hr.mono (by decide)) (by rfl) T.g_heard_one T.f_heard_one.kp T.b_heard_one tk (sa_cons (se_var 5) sa_nil))) (se_lstR (sa_cons (se_tup (sa_cons se_str sa_nil)) sa_nil))))))
      (sss_cons (ss_expr (se_lm PySem.F.slot_list_append PySem.F.type_list_append mt_append sim_app rfl (se_var 4) (sa_cons (se_tup (sa_cons se_str (sa_cons se_int (sa_cons se_int sa_nil)))) sa_nil)))
      (sss_cons (ss_if (st_cmp op_gt (sim_rel _) (se_var 3) (se_var 1)) (sss_cons (ss_set 4 sc_story_of.nd (se_op op_addR sim_addO (se_var 4) (se_call0 okB_answered (hr.mono (by decide)) (by rfl) T.g_answered T.f_answered.kp T.b_answered tk)))
      (sss_one (ss_for hp rfl (si_range2 (by rfl) T.nb_range (se_var 1) (se_var 3)) (pgn 5 sc_story_of.nd) (sim_gname 5) (sss_one (ss_set 4 sc_story_of.nd (se_op op_addR sim_addO (se_opF op_addR sim_addR (se_opF op_addR sim_addR (se_var 4) (se_if (st_cmp op_gt (sim_rel _) (se_var 5) (se_var 1)) (se_lstR (sa_cons (se_tup (sa_cons se_str sa_nil)) sa_nil)) (se_lstR sa_nil))) (se_call okB_heard_one (hr.mono (by decide)) (by rfl) T.g_heard_one T.f_heard_one.kp T.b_heard_one tk (sa_cons (se_var 5) sa_nil))) (se_call0 okB_answered (hr.mono (by decide)) (by rfl) T.g_answered T.f_answered.kp T.b_answered tk))))))) sss_nil)
      (sss_cons (ss_expr (se_lm PySem.F.slot_list_append PySem.F.type_list_append mt_append sim_app rfl (se_var 4) (sa_cons (se_tup (sa_cons se_str (sa_cons se_int (sa_cons se_int sa_nil)))) sa_nil)))
      (sss_cons (ss_if (st_cmp op_le (sim_rel _) (se_var 3) (se_var 1)) (sss_one (ss_set 4 sc_story_of.nd (se_op op_addR sim_addO (se_var 4) (se_call0 okB_answered (hr.mono (by decide)) (by rfl) T.g_answered T.f_answered.kp T.b_answered tk)))) sss_nil)
      (sss_cons (ss_for hp rfl (si_range2 (by rfl) T.nb_range (se_var 3) (se_var 0)) (pgn 5 sc_story_of.nd) (sim_gname 5) (sss_cons (ss_if (PW.pt (sw_or (st_cmp op_gt (sim_rel _) (se_var 5) (se_var 3)) (sw_or1 (st_cmp op_gt (sim_rel _) (se_var 3) (se_var 1))))) (sss_one (ss_expr (se_lm PySem.F.slot_list_append PySem.F.type_list_append mt_append sim_app rfl (se_var 4) (sa_cons (se_tup (sa_cons se_str sa_nil)) sa_nil)))) sss_nil)
      (sss_one (ss_set 4 sc_story_of.nd (se_op op_addR sim_addO (se_opF op_addR sim_addR (se_var 4) (se_call okB_heard_one (hr.mono (by decide)) (by rfl) T.g_heard_one T.f_heard_one.kp T.b_heard_one tk (sa_cons (se_var 5) sa_nil))) (se_call0 okB_answered (hr.mono (by decide)) (by rfl) T.g_answered T.f_answered.kp T.b_answered tk))))))
      (sss_one (ss_ret (se_fz (se_var 4)))))))))))))
def A_story_of : Fn := aloneF B_story_of
theorem okA_story_of (T : Tx w.params K mg C A fd) : FnV (gm K C cc cv) P w K mg base 2 (A 30) (fd 30) ["marks", "window", "life"] A_story_of := okAlone (okB_story_of T)
theorem sc_judged : FnScope N_judged ["marks", "window", "life"] (defScope s_judged) := ⟨rfl, rfl, rfl, by decide +kernel, rfl, by decide +kernel, by decide +kernel⟩
def F_judged : FSt := (fSeq (fDo (fCall B_asked_bounds [(fVar 0), (fVar 1), (fVar 2)]))
    (fRet (fIf (fB (fBin gGe (fVar 0) (fBin gAddR (fBin gMul (fC (.int 2)) (fVar 1)) (fVar 2)))) (fMake0 3) (fMake 4 B_Fooled_init [(fCall A_story_of [(fVar 0), (fVar 1), (fVar 2)])]))))
def B_judged : Fn := runB 3 3 F_judged
theorem okB_judged (T : Tx w.params K mg C A fd) : FnV (gm K C cc cv) P w K mg base 3 (A 31) (fd 31) ["marks", "window", "life"] B_judged := by
  have okB_asked_bounds := okB_asked_bounds (P := P) (w := w) (base := base) (cc := cc) (cv := cv) T
  have okB_Fooled_init := okB_Fooled_init (P := P) (w := w) (base := base) (cc := cc) (cv := cv) T
  have okA_story_of := okA_story_of (P := P) (w := w) (base := base) (cc := cc) (cv := cv) T
  exact fnV_of rfl T.f_judged sc_judged (fun cdv A' outer s H E hr tk hp =>
    (sss_cons (ss_expr (se_call okB_asked_bounds (hr.mono (by decide)) (by rfl) T.g_asked_bounds T.f_asked_bounds.kp T.b_asked_bounds tk (sa_cons (se_var 0) (sa_cons (se_var 1) (sa_cons (se_var 2) sa_nil)))))
      (sss_one (ss_ret (se_if (st_cmp op_ge (sim_rel _) (se_var 0) (se_opF op_addR sim_addR (se_op op_mulW2 sim_mul se_int (se_var 1)) (se_var 2))) (se_make0 3 T.mk0_3 (show (flOf 3).Nodup ∧ (flOf 3).length ≤ 500 by decide +kernel) (by rfl) T.gc_3) (se_make 4 T.mk_4 okB_Fooled_init (show (flOf 4).Nodup ∧ (flOf 4).length ≤ 500 by decide +kernel) (hr.mono (by decide)) (by rfl) T.gc_4 T.b_Fooled_init tk (sa_cons (se_call okA_story_of (hr.mono (by decide)) (by rfl) T.g_story_of T.f_story_of.kp T.b_story_of tk (sa_cons (se_var 0) (sa_cons (se_var 1) (sa_cons (se_var 2) sa_nil)))) sa_nil)))))))
def fb_0 : FE := (fCall B_judged [(fVar 1), (fC (.int 2)), (fC (.int 3))])
def fb_1 : FE := (fCall B_judged [(fC (.int 8)), (fVar 1), (fC (.int 3))])
def fb_2 : FE := (fMake 0 B_Talk_init [(fC (.int 8)), (fC (.int 2)), (fVar 1)])
def fb_3 : FE := (fMeth 0 S_Talk_post (fVar 0) [(fVar 1), (fC (.int 0))])
def fb_4 : FE := (fMeth 0 S_Talk_post (fVar 0) [(fC (.int 0)), (fVar 1)])
def fb_5 : FE := (fMeth 0 S_Talk_answer (fVar 0) [(fVar 1)])
def fbOf : Nat → FE
  | 0 => fb_0
  | 1 => fb_1
  | 2 => fb_2
  | 3 => fb_3
  | 4 => fb_4
  | 5 => fb_5
  | _ => fun _ _ => none
theorem lamb_0 (T : Tx w.params K mg C A fd) (A' : Around) (outer : List Env) (s : Shared) (H : Hp) (E : XK) (f c' : Addr) (hr : Room 4 (A'.deeper (envL lmR_0 cc s.heap.objs.size f c'))) (tk : L2N.Takes (lamB P w K mg base (lamN lmR_0) A' outer s H E lmR_0 cc f c') (fun cls d _ H1 => E cls d H1)) :
    SE (gm K C cc cv) (lamB P w K mg base (lamN lmR_0) A' outer s H E lmR_0 cc f c') (fun cls d _ H1 => E cls d H1) lmR_0.body fb_0 := by
  have okB_judged := okB_judged (P := P) (w := w) (base := base) (cc := cc) (cv := cv) T
  have okB_Talk_init := okB_Talk_init (P := P) (w := w) (base := base) (cc := cc) (cv := cv) T
  have okS_Talk_post := okS_Talk_post (P := P) (w := w) (base := base) (cc := cc) (cv := cv) T
  have okS_Talk_answer := okS_Talk_answer (P := P) (w := w) (base := base) (cc := cc) (cv := cv) T
  exact (se_call okB_judged (hr.mono (by decide)) (by rfl) T.g_judged T.f_judged.kp T.b_judged tk (sa_cons (se_var 1) (sa_cons se_int (sa_cons se_int sa_nil))))
theorem lamb_1 (T : Tx w.params K mg C A fd) (A' : Around) (outer : List Env) (s : Shared) (H : Hp) (E : XK) (f c' : Addr) (hr : Room 4 (A'.deeper (envL lmR_1 cc s.heap.objs.size f c'))) (tk : L2N.Takes (lamB P w K mg base (lamN lmR_1) A' outer s H E lmR_1 cc f c') (fun cls d _ H1 => E cls d H1)) :
    SE (gm K C cc cv) (lamB P w K mg base (lamN lmR_1) A' outer s H E lmR_1 cc f c') (fun cls d _ H1 => E cls d H1) lmR_1.body fb_1 := by
  have okB_judged := okB_judged (P := P) (w := w) (base := base) (cc := cc) (cv := cv) T
  have okB_Talk_init := okB_Talk_init (P := P) (w := w) (base := base) (cc := cc) (cv := cv) T
  have okS_Talk_post := okS_Talk_post (P := P) (w := w) (base := base) (cc := cc) (cv := cv) T
  have okS_Talk_answer := okS_Talk_answer (P := P) (w := w) (base := base) (cc := cc) (cv := cv) T
  exact (se_call okB_judged (hr.mono (by decide)) (by rfl) T.g_judged T.f_judged.kp T.b_judged tk (sa_cons se_int (sa_cons (se_var 1) (sa_cons se_int sa_nil))))
theorem lamb_2 (T : Tx w.params K mg C A fd) (A' : Around) (outer : List Env) (s : Shared) (H : Hp) (E : XK) (f c' : Addr) (hr : Room 4 (A'.deeper (envL lmR_2 cc s.heap.objs.size f c'))) (tk : L2N.Takes (lamB P w K mg base (lamN lmR_2) A' outer s H E lmR_2 cc f c') (fun cls d _ H1 => E cls d H1)) :
    SE (gm K C cc cv) (lamB P w K mg base (lamN lmR_2) A' outer s H E lmR_2 cc f c') (fun cls d _ H1 => E cls d H1) lmR_2.body fb_2 := by
  have okB_judged := okB_judged (P := P) (w := w) (base := base) (cc := cc) (cv := cv) T
  have okB_Talk_init := okB_Talk_init (P := P) (w := w) (base := base) (cc := cc) (cv := cv) T
  have okS_Talk_post := okS_Talk_post (P := P) (w := w) (base := base) (cc := cc) (cv := cv) T
  have okS_Talk_answer := okS_Talk_answer (P := P) (w := w) (base := base) (cc := cc) (cv := cv) T
  exact (se_make 0 T.mk_0 okB_Talk_init (show (flOf 0).Nodup ∧ (flOf 0).length ≤ 500 by decide +kernel) (hr.mono (by decide)) (by rfl) T.gc_0 T.b_Talk_init tk (sa_cons se_int (sa_cons se_int (sa_cons (se_var 1) sa_nil))))
theorem lamb_3 (T : Tx w.params K mg C A fd) (A' : Around) (outer : List Env) (s : Shared) (H : Hp) (E : XK) (f c' : Addr) (hr : Room 4 (A'.deeper (envL lmR_3 cc s.heap.objs.size f c'))) (tk : L2N.Takes (lamB P w K mg base (lamN lmR_3) A' outer s H E lmR_3 cc f c') (fun cls d _ H1 => E cls d H1)) :
    SE (gm K C cc cv) (lamB P w K mg base (lamN lmR_3) A' outer s H E lmR_3 cc f c') (fun cls d _ H1 => E cls d H1) lmR_3.body fb_3 := by
  have okB_judged := okB_judged (P := P) (w := w) (base := base) (cc := cc) (cv := cv) T
  have okB_Talk_init := okB_Talk_init (P := P) (w := w) (base := base) (cc := cc) (cv := cv) T
  have okS_Talk_post := okS_Talk_post (P := P) (w := w) (base := base) (cc := cc) (cv := cv) T
  have okS_Talk_answer := okS_Talk_answer (P := P) (w := w) (base := base) (cc := cc) (cv := cv) T
  exact (se_meth 0 (se_var 0) T.cl_0 T.m_Talk_post (show ("post" : Str) ∉ flOf 0 by decide +kernel) okS_Talk_post (hr.mono (by decide)) T.b_Talk_post tk (sa_cons (se_var 1) (sa_cons se_int sa_nil)))
theorem lamb_4 (T : Tx w.params K mg C A fd) (A' : Around) (outer : List Env) (s : Shared) (H : Hp) (E : XK) (f c' : Addr) (hr : Room 4 (A'.deeper (envL lmR_4 cc s.heap.objs.size f c'))) (tk : L2N.Takes (lamB P w K mg base (lamN lmR_4) A' outer s H E lmR_4 cc f c') (fun cls d _ H1 => E cls d H1)) :
    SE (gm K C cc cv) (lamB P w K mg base (lamN lmR_4) A' outer s H E lmR_4 cc f c') (fun cls d _ H1 => E cls d H1) lmR_4.body fb_4 := by
  have okB_judged := okB_judged (P := P) (w := w) (base := base) (cc := cc) (cv := cv) T
  have okB_Talk_init := okB_Talk_init (P := P) (w := w) (base := base) (cc := cc) (cv := cv) T
  have okS_Talk_post := okS_Talk_post (P := P) (w := w) (base := base) (cc := cc) (cv := cv) T
  have okS_Talk_answer := okS_Talk_answer (P := P) (w := w) (base := base) (cc := cc) (cv := cv) T
  exact (se_meth 0 (se_var 0) T.cl_0 T.m_Talk_post (show ("post" : Str) ∉ flOf 0 by decide +kernel) okS_Talk_post (hr.mono (by decide)) T.b_Talk_post tk (sa_cons se_int (sa_cons (se_var 1) sa_nil)))
theorem lamb_5 (T : Tx w.params K mg C A fd) (A' : Around) (outer : List Env) (s : Shared) (H : Hp) (E : XK) (f c' : Addr) (hr : Room 4 (A'.deeper (envL lmR_5 cc s.heap.objs.size f c'))) (tk : L2N.Takes (lamB P w K mg base (lamN lmR_5) A' outer s H E lmR_5 cc f c') (fun cls d _ H1 => E cls d H1)) :
    SE (gm K C cc cv) (lamB P w K mg base (lamN lmR_5) A' outer s H E lmR_5 cc f c') (fun cls d _ H1 => E cls d H1) lmR_5.body fb_5 := by
  have okB_judged := okB_judged (P := P) (w := w) (base := base) (cc := cc) (cv := cv) T
  have okB_Talk_init := okB_Talk_init (P := P) (w := w) (base := base) (cc := cc) (cv := cv) T
  have okS_Talk_post := okS_Talk_post (P := P) (w := w) (base := base) (cc := cc) (cv := cv) T
  have okS_Talk_answer := okS_Talk_answer (P := P) (w := w) (base := base) (cc := cc) (cv := cv) T
  exact (se_meth 0 (se_var 0) T.cl_0 T.m_Talk_answer (show ("answer" : Str) ∉ flOf 0 by decide +kernel) okS_Talk_answer (hr.mono (by decide)) T.b_Talk_answer tk (sa_cons (se_var 1) sa_nil))
theorem lams_ok (T : Tx w.params K mg C A fd) : LamsOk (gm K C cc cv) P w K mg base 4 arOf fbOf := by
  intro j r hj
  have hj' : lmOf j = some r := hj
  unfold lmOf at hj'
  split at hj'
  · cases hj'; exact ⟨lamOk_by (by decide +kernel), rfl, by decide, fun cl pm cv' ctv us hl => match us, hl with | [_], _ => rfl, fun A' outer s H E f c' hr tk => lamb_0 T A' outer s H E f c' hr tk⟩
  · cases hj'; exact ⟨lamOk_by (by decide +kernel), rfl, by decide, fun cl pm cv' ctv us hl => match us, hl with | [_], _ => rfl, fun A' outer s H E f c' hr tk => lamb_1 T A' outer s H E f c' hr tk⟩
  · cases hj'; exact ⟨lamOk_by (by decide +kernel), rfl, by decide, fun cl pm cv' ctv us hl => match us, hl with | [_], _ => rfl, fun A' outer s H E f c' hr tk => lamb_2 T A' outer s H E f c' hr tk⟩
  · cases hj'; exact ⟨lamOk_by (by decide +kernel), rfl, by decide, fun cl pm cv' ctv us hl => match us, hl with | [_], _ => rfl, fun A' outer s H E f c' hr tk => lamb_3 T A' outer s H E f c' hr tk⟩
  · cases hj'; exact ⟨lamOk_by (by decide +kernel), rfl, by decide, fun cl pm cv' ctv us hl => match us, hl with | [_], _ => rfl, fun A' outer s H E f c' hr tk => lamb_4 T A' outer s H E f c' hr tk⟩
  · cases hj'; exact ⟨lamOk_by (by decide +kernel), rfl, by decide, fun cl pm cv' ctv us hl => match us, hl with | [_], _ => rfl, fun A' outer s H E f c' hr tk => lamb_5 T A' outer s H E f c' hr tk⟩
  · cases hj'
theorem sc__law_refused : FnScope N__law_refused ["_law_ask", "_law_thing", "_law_due"] (defScope s__law_refused) := ⟨rfl, rfl, rfl, by decide +kernel, rfl, by decide +kernel, by decide +kernel⟩
def F__law_refused : FSt := (fSeq (fTryAs catE 3 (fDo (fLcall1 arOf fbOf 0 1)) (fun c => (fSeq (fSet 4 (fLst [(fC (.bl (decide (c = 11)))), (fC (.bl (decide (c = 12)))), (fC (.bl (decide (c = 13))))]))
    (fSeq (fSet 4 (fBin gAddO (fVar 4) (fLstR [(fC (.bl (decide (c = 14)))), (fC (.bl (decide (c = 15)))), (fC (.bl (decide (c = 16))))])))
    (fSeq (fSet 4 (fBin gAddO (fVar 4) (fLstR [(fC (.bl (decide (c = 17)))), (fC (.bl (decide (c = 18)))), (fC (.bl (decide (c = 19))))])))
    (fSeq (fDo (fLM gApp (fVar 4) [(fC (.bl (decide (c = 20))))]))
    (fRet (fAndV (fBin gEq (fVar 4) (fLcR (fIr1 (fC (.int 10))) 5 [5] fYes (fBin gEq (fVar 5) (fVar 2)))) (fC (.bl true))))))))))
    (fRet (fC (.bl false))))
def B__law_refused : Fn := runB 6 3 F__law_refused
theorem okB__law_refused (T : Tx w.params K mg C A fd) (LC : LamCell base cc cv) : FnV (gm K C cc cv) P w K mg base 6 (A 32) (fd 32) ["_law_ask", "_law_thing", "_law_due"] B__law_refused := by
  have LO := lams_ok (P := P) (w := w) (base := base) (cc := cc) (cv := cv) T
  exact fnV_of rfl T.f__law_refused sc__law_refused (fun cdv A' outer s H E hr tk hp =>
    (sss_cons (ss_tryAs 3 rfl rfl rfl sc__law_refused.nd rfl rfl ⟨by rfl, by decide, .inl T.gc_10⟩ tk T.cat (fun W' pn xe tk' hp' => (sss_one (ss_expr (se_lcall1 0 1 rfl rfl tk' LC LO (hr.mono (by decide)) rfl (by first | exact Or.inl rfl | exact Or.inr (Or.inl rfl) | exact Or.inr (Or.inr rfl)) rfl (by first | exact Or.inl rfl | exact Or.inr (Or.inl rfl) | exact Or.inr (Or.inr rfl)))))) (fun c a oe pn hcc hz hd => (sss_cons (ss_set 4 sc__law_refused.nd (se_lst (sa_cons (se_isE (i := 3) (T.isx c hcc) hz.zc hd (by rfl) T.nb_isinstance (pe_glob (v := .ref (C 11)) (by rfl) T.gc_11 rfl) (fun _ z => z) (T.isy_11 c hcc)) (sa_cons (se_isE (i := 3) (T.isx c hcc) hz.zc hd (by rfl) T.nb_isinstance (pe_glob (v := .ref (C 12)) (by rfl) T.gc_12 rfl) (fun _ z => z) (T.isy_12 c hcc)) (sa_cons (se_isE (i := 3) (T.isx c hcc) hz.zc hd (by rfl) T.nb_isinstance (pe_glob (v := .ref (C 13)) (by rfl) T.gc_13 rfl) (fun _ z => z) (T.isy_13 c hcc)) sa_nil)))))
      (sss_cons (ss_set 4 sc__law_refused.nd (se_op op_addR sim_addO (se_var 4) (se_lstR (sa_cons (se_isE (i := 3) (T.isx c hcc) hz.zc hd (by rfl) T.nb_isinstance (pe_glob (v := .ref (C 14)) (by rfl) T.gc_14 rfl) (fun _ z => z) (T.isy_14 c hcc)) (sa_cons (se_isE (i := 3) (T.isx c hcc) hz.zc hd (by rfl) T.nb_isinstance (pe_glob (v := .ref (C 15)) (by rfl) T.gc_15 rfl) (fun _ z => z) (T.isy_15 c hcc)) (sa_cons (se_isE (i := 3) (T.isx c hcc) hz.zc hd (by rfl) T.nb_isinstance (pe_glob (v := .ref (C 16)) (by rfl) T.gc_16 rfl) (fun _ z => z) (T.isy_16 c hcc)) sa_nil))))))
      (sss_cons (ss_set 4 sc__law_refused.nd (se_op op_addR sim_addO (se_var 4) (se_lstR (sa_cons (se_isE (i := 3) (T.isx c hcc) hz.zc hd (by rfl) T.nb_isinstance (pe_glob (v := .ref (C 17)) (by rfl) T.gc_17 rfl) (fun _ z => z) (T.isy_17 c hcc)) (sa_cons (se_isE (i := 3) (T.isx c hcc) hz.zc hd (by rfl) T.nb_isinstance (pe_glob (v := .ref (C 18)) (by rfl) T.gc_18 rfl) (fun _ z => z) (T.isy_18 c hcc)) (sa_cons (se_isE (i := 3) (T.isx c hcc) hz.zc hd (by rfl) T.nb_isinstance (pe_glob (v := .ref (C 19)) (by rfl) T.gc_19 rfl) (fun _ z => z) (T.isy_19 c hcc)) sa_nil))))))
      (sss_cons (ss_expr (se_lm PySem.F.slot_list_append PySem.F.type_list_append mt_append sim_app rfl (se_var 4) (sa_cons (se_isE (i := 3) (T.isx c hcc) hz.zc hd (by rfl) T.nb_isinstance (pe_glob (v := .ref (C 20)) (by rfl) T.gc_20 rfl) (fun _ z => z) (T.isy_20 c hcc)) sa_nil)))
      (sss_one (ss_ret (se_and (se_cmp (op_eqD hr.units) sim_eq (se_var 4) (se_lcRZ (hotS hz hd) sc__law_refused.nd [("_law_kind", 5)] rfl (siz_range1 (by rfl) T.nb_range se_int) (blkOk_by (own := [("_law_kind", 5)]) (N := N__law_refused) (sc := defScope s__law_refused) (by decide +kernel)) (by decide) (fun _ _ _ _ _ => pgn 5 sc__law_refused.nd) (fun _ _ _ _ _ => sts_nil) (fun _ _ _ _ _ => (se_cmp (op_eqD hr.units) sim_eq (se_var 5) (se_var 2))) (fr := free1 (by decide)))) (se_one (se_isE (i := 3) (T.isx c hcc) hz.zc hd (by rfl) T.nb_isinstance (pe_bltn (v := .ty "ValueError") (by rfl) T.nb_ValueError bb_ValueError rfl) (fun _ z => z) (T.isv c hcc))))))))))))
      (sss_one (ss_ret se_bl))))
theorem sc__law_great : FnScope N__law_great ["_law_far"] (defScope s__law_great) := ⟨rfl, rfl, rfl, by decide +kernel, rfl, by decide +kernel, by decide +kernel⟩
def F__law_great : FSt := (fSeq (fSet 1 (fBin gAddR (fBin gPow (fC (.int 10)) (fC (.int 64))) (fVar 0)))
    (fSeq (fFor (fIr1 (fC (.int 7))) (gtName 2) (fSet 1 (fBin gMul (fVar 1) (fVar 1))))
    (fRet (fVar 1))))
def B__law_great : Fn := runB 3 1 F__law_great
theorem okB__law_great (T : Tx w.params K mg C A fd) : FnV (gm K C cc cv) P w K mg base 1 (A 33) (fd 33) ["_law_far"] B__law_great := by
  exact fnV_of rfl T.f__law_great sc__law_great (fun cdv A' outer s H E hr tk hp =>
    (sss_cons (ss_set 1 sc__law_great.nd (se_opF op_addR sim_addR (se_op op_pow sim_pow se_int se_int) (se_var 0)))
      (sss_cons (ss_for hp rfl (si_range1 (by rfl) T.nb_range se_int) (pgn 2 sc__law_great.nd) (sim_gname 2) (sss_one (ss_set 1 sc__law_great.nd (se_op op_mulW2 sim_mul (se_var 1) (se_var 1)))))
      (sss_one (ss_ret (se_var 1))))))
theorem sc_law : FnScope N_law ["_law_script"] (defScope s_law) := ⟨rfl, rfl, rfl, by decide +kernel, rfl, by decide +kernel, by decide +kernel⟩
def F_law : FSt := (fSeq (fSet 1 (fCB gAbs [(fCB gSum [(fSl gSlR (fVar 0) fNo (fPart (fC (.int 63))))])]))
    (fSeq (fSet 2 (fCall B__law_great [(fBin gMod (fVar 1) (fBin gPow (fC (.int 10)) (fC (.int 9))))]))
    (fSeq (fIfS (fB (fBin gNotB (fAlt (fMeth 1 T_Done_shows (fMake 2 B_Halt_init [(fVar 2)]) [(fC (.int 8)), (fC (.int 2)), (fC (.int 3)), (fLstR [(fTup [(fC (.str "rise")), (fC (.int 0))])])]) (fMeth 2 T_Halt_shows (fMake 2 B_Halt_init [(fVar 2)]) [(fC (.int 8)), (fC (.int 2)), (fC (.int 3)), (fLstR [(fTup [(fC (.str "rise")), (fC (.int 0))])])])) (fC (.bl false)))) (fRet (fC (.bl false))) fNil)
    (fSeq (fIfS (fB (fBin gNotB (fAlt (fMeth 1 T_Done_shows (fMake 2 B_Halt_init [(fUn gNeg (fVar 2))]) [(fC (.int 8)), (fC (.int 2)), (fC (.int 3)), (fLstR [(fTup [(fC (.str "tick"))])])]) (fMeth 2 T_Halt_shows (fMake 2 B_Halt_init [(fUn gNeg (fVar 2))]) [(fC (.int 8)), (fC (.int 2)), (fC (.int 3)), (fLstR [(fTup [(fC (.str "tick"))])])])) (fC (.bl false)))) (fRet (fC (.bl false))) fNil)
    (fSeq (fIfS (fOrT (fB (fBin gNotB (fAlt (fMeth 1 T_Done_shows (fMake 1 B_Done_init [(fLstR [(fVar 2)])]) [(fC (.int 8)), (fC (.int 2)), (fC (.int 3)), (fLstR [(fTup [(fC (.str "tick"))])])]) (fMeth 2 T_Halt_shows (fMake 1 B_Done_init [(fLstR [(fVar 2)])]) [(fC (.int 8)), (fC (.int 2)), (fC (.int 3)), (fLstR [(fTup [(fC (.str "tick"))])])])) (fC (.bl false)))) (fNotT (fB (fIsc (subOf 3) (fCall B_judged [(fC (.int 8)), (fC (.int 2)), (fC (.int 3))]))))) (fRet (fC (.bl false))) fNil)
    (fSeq (fFor (fIl (fLstR [(fTup [(fC (.str "post")), (fVar 2), (fC (.int 0))]), (fTup [(fC (.str "post")), (fC (.int 0)), (fVar 2)]), (fTup [(fC (.str "answer")), (fVar 2)]), (fTup [(fC (.str "bring")), (fC (.int 0)), (fVar 2)]), (fTup [(fC (.str "fall")), (fUn gNeg (fVar 2))])])) (gtName 3) (fSeq (fSet 4 (fCall B_told [(fC (.int 8)), (fC (.int 2)), (fC (.int 3)), (fLstR [(fTup [(fC (.str "tick"))]), (fVar 3)])]))
    (fIfS (fOrT (fNotT (fB (fIsc (subOf 2) (fVar 4)))) (fOrT (fB (fBin gNe (fFld 2 0 (fVar 4)) (fC (.int 1)))) (fB (fBin gNotB (fAlt (fMeth 1 T_Done_shows (fVar 4) [(fC (.int 8)), (fC (.int 2)), (fC (.int 3)), (fLstR [(fTup [(fC (.str "tick"))]), (fVar 3)])]) (fMeth 2 T_Halt_shows (fVar 4) [(fC (.int 8)), (fC (.int 2)), (fC (.int 3)), (fLstR [(fTup [(fC (.str "tick"))]), (fVar 3)])])) (fC (.bl true)))))) (fRet (fC (.bl false))) fNil)))
    (fSeq (fIfS (fOrT (fNotT (fB (fIsc (subOf 1) (fCall B_told [(fC (.int 8)), (fC (.int 2)), (fC (.int 3)), (fLstR [(fTup [(fC (.str "tick"))])])])))) (fNotT (fB (fIsc (subOf 4) (fCall B_judged [(fC (.int 2)), (fC (.int 2)), (fC (.int 3))]))))) (fRet (fC (.bl false))) fNil)
    (fSeq (fSet 5 (fMake 0 S_Talk_init [(fC (.int 8)), (fC (.int 2)), (fC (.int 3))]))
    (fSeq (fSet 6 (fLstR [(fLamM 0 40 (lamQ "law") 0 none), (fLamM 0 40 (lamQ "law") 1 none)]))
    (fSeq (fSet 6 (fBin gAddR (fVar 6) (fLstR [(fLamM 0 40 (lamQ "law") 2 none), (fLamM 0 40 (lamQ "law") 3 (some 5))])))
    (fSeq (fSet 6 (fBin gAddR (fVar 6) (fLstR [(fLamM 0 40 (lamQ "law") 4 (some 5)), (fLamM 0 40 (lamQ "law") 5 (some 5))])))
    (fRet (fCB gAll [(fLcTB capsOf 5 (fIz [(fVar 6), (fLstR [(fC (.int 0)), (fC (.int 1)), (fC (.int 2)), (fC (.int 4)), (fC (.int 5)), (fC (.int 4))])]) (gtTup (gtCons 7 (gtCons 8 gtNil))) [7, 8] fYes (fCall B__law_refused [(fVar 7), (fVar 2), (fVar 8)]))])))))))))))))
def B_law : Fn := runL 9 1 F_law
theorem okB_law (T : Tx w.params K mg C A fd) (U : Ub base mg C fd) : FnV (gm K C cc cv) P w K mg base 8 (A 34) (fd 34) ["_law_script"] B_law := by
  refine fnV_ofL (fun s => (ccOf "_law_talk" s_law s)) rfl T.f_law sc_law U.cd_0 (fun A' outer s H E hr tk hp => ?_)
  show SSs (gm K C (ccOf "_law_talk" s_law s) none) _ _ _ _
  have okB__law_great := okB__law_great (P := P) (w := w) (base := base) (cc := (ccOf "_law_talk" s_law s)) (cv := none) T
  have okS_Talk_init := okS_Talk_init (P := P) (w := w) (base := base) (cc := (ccOf "_law_talk" s_law s)) (cv := none) T
  have okB_Sure_shows := okB_Sure_shows (P := P) (w := w) (base := base) (cc := (ccOf "_law_talk" s_law s)) (cv := none) T
  have okB_Fooled_shows := okB_Fooled_shows (P := P) (w := w) (base := base) (cc := (ccOf "_law_talk" s_law s)) (cv := none) T
  have okT_Done_shows := okT_Done_shows (P := P) (w := w) (base := base) (cc := (ccOf "_law_talk" s_law s)) (cv := none) T
  have okT_Halt_shows := okT_Halt_shows (P := P) (w := w) (base := base) (cc := (ccOf "_law_talk" s_law s)) (cv := none) T
  have okB_told := okB_told (P := P) (w := w) (base := base) (cc := (ccOf "_law_talk" s_law s)) (cv := none) T
  have okB_judged := okB_judged (P := P) (w := w) (base := base) (cc := (ccOf "_law_talk" s_law s)) (cv := none) T
  have okB_Halt_init := okB_Halt_init (P := P) (w := w) (base := base) (cc := (ccOf "_law_talk" s_law s)) (cv := none) T
  have okS_Talk_post := okS_Talk_post (P := P) (w := w) (base := base) (cc := (ccOf "_law_talk" s_law s)) (cv := none) T
  have okS_Talk_answer := okS_Talk_answer (P := P) (w := w) (base := base) (cc := (ccOf "_law_talk" s_law s)) (cv := none) T
  have okB_Done_init := okB_Done_init (P := P) (w := w) (base := base) (cc := (ccOf "_law_talk" s_law s)) (cv := none) T
  exact (sss_cons (ss_set 1 sc_law.nd (se_cb call_abs sim_abs (by rfl) T.nb_abs bb_abs (sa_cons (se_cb (cr_sum rfl) sim_sum (by rfl) T.nb_sum bb_sum (sa_cons (se_slR rfl (se_var 0) so_none (so_some se_int)) sa_nil)) sa_nil)))
      (sss_cons (ss_set 2 sc_law.nd (se_call okB__law_great (hr.mono (by decide)) (by rfl) T.g__law_great T.f__law_great.kp T.b__law_great tk (sa_cons (se_op op_mod sim_mod (se_var 1) (se_op op_pow sim_pow se_int se_int)) sa_nil)))
      (sss_cons (ss_if (st_cmp op_notBl sim_notB (se_alt (se_meth 1 (se_make 2 T.mk_2 okB_Halt_init (show (flOf 2).Nodup ∧ (flOf 2).length ≤ 500 by decide +kernel) (hr.mono (by decide)) (by rfl) T.gc_2 T.b_Halt_init tk (sa_cons (se_var 2) sa_nil)) T.cl_1 T.m_Done_shows (show ("shows" : Str) ∉ flOf 1 by decide +kernel) okT_Done_shows (hr.mono (by decide)) T.b_Done_shows tk (sa_cons se_int (sa_cons se_int (sa_cons se_int (sa_cons (se_lstR (sa_cons (se_tup (sa_cons se_str (sa_cons se_int sa_nil))) sa_nil)) sa_nil))))) (se_meth 2 (se_make 2 T.mk_2 okB_Halt_init (show (flOf 2).Nodup ∧ (flOf 2).length ≤ 500 by decide +kernel) (hr.mono (by decide)) (by rfl) T.gc_2 T.b_Halt_init tk (sa_cons (se_var 2) sa_nil)) T.cl_2 T.m_Halt_shows (show ("shows" : Str) ∉ flOf 2 by decide +kernel) okT_Halt_shows (hr.mono (by decide)) T.b_Halt_shows tk (sa_cons se_int (sa_cons se_int (sa_cons se_int (sa_cons (se_lstR (sa_cons (se_tup (sa_cons se_str (sa_cons se_int sa_nil))) sa_nil)) sa_nil)))))) se_bl) (sss_one (ss_ret se_bl)) sss_nil)
      (sss_cons (ss_if (st_cmp op_notBl sim_notB (se_alt (se_meth 1 (se_make 2 T.mk_2 okB_Halt_init (show (flOf 2).Nodup ∧ (flOf 2).length ≤ 500 by decide +kernel) (hr.mono (by decide)) (by rfl) T.gc_2 T.b_Halt_init tk (sa_cons (se_un un_neg sim_neg (se_var 2)) sa_nil)) T.cl_1 T.m_Done_shows (show ("shows" : Str) ∉ flOf 1 by decide +kernel) okT_Done_shows (hr.mono (by decide)) T.b_Done_shows tk (sa_cons se_int (sa_cons se_int (sa_cons se_int (sa_cons (se_lstR (sa_cons (se_tup (sa_cons se_str sa_nil)) sa_nil)) sa_nil))))) (se_meth 2 (se_make 2 T.mk_2 okB_Halt_init (show (flOf 2).Nodup ∧ (flOf 2).length ≤ 500 by decide +kernel) (hr.mono (by decide)) (by rfl) T.gc_2 T.b_Halt_init tk (sa_cons (se_un un_neg sim_neg (se_var 2)) sa_nil)) T.cl_2 T.m_Halt_shows (show ("shows" : Str) ∉ flOf 2 by decide +kernel) okT_Halt_shows (hr.mono (by decide)) T.b_Halt_shows tk (sa_cons se_int (sa_cons se_int (sa_cons se_int (sa_cons (se_lstR (sa_cons (se_tup (sa_cons se_str sa_nil)) sa_nil)) sa_nil)))))) se_bl) (sss_one (ss_ret se_bl)) sss_nil)
      (sss_cons (ss_if (PW.pt (sw_or (st_cmp op_notBl sim_notB (se_alt (se_meth 1 (se_make 1 T.mk_1 okB_Done_init (show (flOf 1).Nodup ∧ (flOf 1).length ≤ 500 by decide +kernel) (hr.mono (by decide)) (by rfl) T.gc_1 T.b_Done_init tk (sa_cons (se_lstR (sa_cons (se_var 2) sa_nil)) sa_nil)) T.cl_1 T.m_Done_shows (show ("shows" : Str) ∉ flOf 1 by decide +kernel) okT_Done_shows (hr.mono (by decide)) T.b_Done_shows tk (sa_cons se_int (sa_cons se_int (sa_cons se_int (sa_cons (se_lstR (sa_cons (se_tup (sa_cons se_str sa_nil)) sa_nil)) sa_nil))))) (se_meth 2 (se_make 1 T.mk_1 okB_Done_init (show (flOf 1).Nodup ∧ (flOf 1).length ≤ 500 by decide +kernel) (hr.mono (by decide)) (by rfl) T.gc_1 T.b_Done_init tk (sa_cons (se_lstR (sa_cons (se_var 2) sa_nil)) sa_nil)) T.cl_2 T.m_Halt_shows (show ("shows" : Str) ∉ flOf 2 by decide +kernel) okT_Halt_shows (hr.mono (by decide)) T.b_Halt_shows tk (sa_cons se_int (sa_cons se_int (sa_cons se_int (sa_cons (se_lstR (sa_cons (se_tup (sa_cons se_str sa_nil)) sa_nil)) sa_nil)))))) se_bl) (sw_or1 (st_not (st_val (se_isc 3 (sub := subOf 3) rfl (by rfl) T.nb_isinstance (by rfl) T.gc_3 (he := (se_call okB_judged (hr.mono (by decide)) (by rfl) T.g_judged T.f_judged.kp T.b_judged tk (sa_cons se_int (sa_cons se_int (sa_cons se_int sa_nil))))) (hok := T.isc_3))))))) (sss_one (ss_ret se_bl)) sss_nil)
      (sss_cons (ss_for hp rfl (si_list rfl (se_lstR (sa_cons (se_tup (sa_cons se_str (sa_cons (se_var 2) (sa_cons se_int sa_nil)))) (sa_cons (se_tup (sa_cons se_str (sa_cons se_int (sa_cons (se_var 2) sa_nil)))) (sa_cons (se_tup (sa_cons se_str (sa_cons (se_var 2) sa_nil))) (sa_cons (se_tup (sa_cons se_str (sa_cons se_int (sa_cons (se_var 2) sa_nil)))) (sa_cons (se_tup (sa_cons se_str (sa_cons (se_un un_neg sim_neg (se_var 2)) sa_nil))) sa_nil))))))) (pgn 3 sc_law.nd) (sim_gname 3) (sss_cons (ss_set 4 sc_law.nd (se_call okB_told (hr.mono (by decide)) (by rfl) T.g_told T.f_told.kp T.b_told tk (sa_cons se_int (sa_cons se_int (sa_cons se_int (sa_cons (se_lstR (sa_cons (se_tup (sa_cons se_str sa_nil)) (sa_cons (se_var 3) sa_nil))) sa_nil))))))
      (sss_one (ss_if (PW.pt (sw_or (st_not (st_val (se_isc 2 (sub := subOf 2) rfl (by rfl) T.nb_isinstance (by rfl) T.gc_2 (he := (se_var 4)) (hok := T.isc_2)))) (sw_or (st_cmp (op_neD hr.units) sim_ne (se_fld 2 0 T.cl_2 T.na_2_place rfl rfl (se_var 4)) se_int) (sw_or1 (st_cmp op_notBl sim_notB (se_alt (se_meth 1 (se_var 4) T.cl_1 T.m_Done_shows (show ("shows" : Str) ∉ flOf 1 by decide +kernel) okT_Done_shows (hr.mono (by decide)) T.b_Done_shows tk (sa_cons se_int (sa_cons se_int (sa_cons se_int (sa_cons (se_lstR (sa_cons (se_tup (sa_cons se_str sa_nil)) (sa_cons (se_var 3) sa_nil))) sa_nil))))) (se_meth 2 (se_var 4) T.cl_2 T.m_Halt_shows (show ("shows" : Str) ∉ flOf 2 by decide +kernel) okT_Halt_shows (hr.mono (by decide)) T.b_Halt_shows tk (sa_cons se_int (sa_cons se_int (sa_cons se_int (sa_cons (se_lstR (sa_cons (se_tup (sa_cons se_str sa_nil)) (sa_cons (se_var 3) sa_nil))) sa_nil)))))) se_bl))))) (sss_one (ss_ret se_bl)) sss_nil))))
      (sss_cons (ss_if (PW.pt (sw_or (st_not (st_val (se_isc 1 (sub := subOf 1) rfl (by rfl) T.nb_isinstance (by rfl) T.gc_1 (he := (se_call okB_told (hr.mono (by decide)) (by rfl) T.g_told T.f_told.kp T.b_told tk (sa_cons se_int (sa_cons se_int (sa_cons se_int (sa_cons (se_lstR (sa_cons (se_tup (sa_cons se_str sa_nil)) sa_nil)) sa_nil)))))) (hok := T.isc_1)))) (sw_or1 (st_not (st_val (se_isc 4 (sub := subOf 4) rfl (by rfl) T.nb_isinstance (by rfl) T.gc_4 (he := (se_call okB_judged (hr.mono (by decide)) (by rfl) T.g_judged T.f_judged.kp T.b_judged tk (sa_cons se_int (sa_cons se_int (sa_cons se_int sa_nil))))) (hok := T.isc_4))))))) (sss_one (ss_ret se_bl)) sss_nil)
      (sss_cons (ss_set 5 sc_law.nd (se_make 0 T.mk_0 okS_Talk_init (show (flOf 0).Nodup ∧ (flOf 0).length ≤ 500 by decide +kernel) (hr.mono (by decide)) (by rfl) T.gc_0 T.b_Talk_init tk (sa_cons se_int (sa_cons se_int (sa_cons se_int sa_nil)))))
      (sss_cons (ss_set 6 sc_law.nd (se_lstR (sa_cons (se_lam (n := 0) (j := 40) (i := 0) (r := lmR_0) (kc := none) U.tb_0 rfl rfl rfl rfl rfl rfl rfl rfl (freeIn_by rfl) rfl) (sa_cons (se_lam (n := 0) (j := 40) (i := 1) (r := lmR_1) (kc := none) U.tb_0 rfl rfl rfl rfl rfl rfl rfl rfl (freeIn_by rfl) rfl) sa_nil))))
      (sss_cons (ss_set 6 sc_law.nd (se_opF op_addR sim_addR (se_var 6) (se_lstR (sa_cons (se_lam (n := 0) (j := 40) (i := 2) (r := lmR_2) (kc := none) U.tb_0 rfl rfl rfl rfl rfl rfl rfl rfl (freeIn_by rfl) rfl) (sa_cons (se_lam (n := 0) (j := 40) (i := 3) (r := lmR_3) (kc := (some 5)) U.tb_0 rfl rfl rfl rfl rfl rfl rfl rfl (freeIn_by rfl) rfl) sa_nil)))))
      (sss_cons (ss_set 6 sc_law.nd (se_opF op_addR sim_addR (se_var 6) (se_lstR (sa_cons (se_lam (n := 0) (j := 40) (i := 4) (r := lmR_4) (kc := (some 5)) U.tb_0 rfl rfl rfl rfl rfl rfl rfl rfl (freeIn_by rfl) rfl) (sa_cons (se_lam (n := 0) (j := 40) (i := 5) (r := lmR_5) (kc := (some 5)) U.tb_0 rfl rfl rfl rfl rfl rfl rfl rfl (freeIn_by rfl) rfl) sa_nil)))))
      (sss_one (ss_ret (se_cb (cr_all rfl) sim_all (by rfl) T.nb_all bb_all (sa_cons (se_lcTB (caps := capsOf) (g := gTup K 2 (gCons (gName 7) (gCons (gName 8) gNil))) 5 rfl caps_ok rfl rfl rfl rfl rfl sc_law.nd [("_law_ask", 7), ("_law_due", 8)] rfl (si_zip rfl (by rfl) T.nb_zip (sa_cons (se_var 6) (sa_cons (se_lstR (sa_cons se_int (sa_cons se_int (sa_cons se_int (sa_cons se_int (sa_cons se_int (sa_cons se_int sa_nil))))))) sa_nil))) (blkOk_by (own := [("_law_ask", 7), ("_law_due", 8)]) (N := N_law) (sc := defScope s_law) (by decide +kernel)) (fun _ _ _ _ _ _ => (pg_tup rfl (pgs_cons (pgn 7 sc_law.nd) (pgs_cons (pgn 8 sc_law.nd) pgs_nil)))) (fun _ => (simw_gtup (simw_gcons 7 (by decide) (simw_gcons 8 (by decide) simw_gnil)) (gt_len (gt_len gtNil_len)))) (fun _ _ _ _ _ _ _ _ => sts_nil) (fun v base' _ _ _ _ _ LC => (se_call (okB__law_refused (P := P) (w := w) (base := base') T LC) (hr.mono (by decide)) (by rfl) T.g__law_refused T.f__law_refused.kp T.b__law_refused takesN (sa_cons (se_var 7) (sa_cons (se_var 2) (sa_cons (se_var 8) sa_nil)))))) sa_nil)))))))))))))))
end
end Pr

namespace Pr
open PySem PySem.Spec PyProof.Rows L2 Tw
theorem td_say (h : VH) : toD 8 h (.str "say") = some (.str "say") := tdS h _ (by decide +kernel)
theorem eq_say_say : PyData.eqv (.str "say") (.str "say") = true := by decide +kernel
theorem eq_say_post : PyData.eqv (.str "say") (.str "post") = false := by decide +kernel
theorem eq_say_answer : PyData.eqv (.str "say") (.str "answer") = false := by decide +kernel
theorem eq_say_bring : PyData.eqv (.str "say") (.str "bring") = false := by decide +kernel
theorem eq_say_lose : PyData.eqv (.str "say") (.str "lose") = false := by decide +kernel
theorem eq_say_fall : PyData.eqv (.str "say") (.str "fall") = false := by decide +kernel
theorem eq_say_rise : PyData.eqv (.str "say") (.str "rise") = false := by decide +kernel
theorem eq_say_tick : PyData.eqv (.str "say") (.str "tick") = false := by decide +kernel
theorem td_post (h : VH) : toD 8 h (.str "post") = some (.str "post") := tdS h _ (by decide +kernel)
theorem eq_post_say : PyData.eqv (.str "post") (.str "say") = false := by decide +kernel
theorem eq_post_post : PyData.eqv (.str "post") (.str "post") = true := by decide +kernel
theorem eq_post_answer : PyData.eqv (.str "post") (.str "answer") = false := by decide +kernel
theorem eq_post_bring : PyData.eqv (.str "post") (.str "bring") = false := by decide +kernel
theorem eq_post_lose : PyData.eqv (.str "post") (.str "lose") = false := by decide +kernel
theorem eq_post_fall : PyData.eqv (.str "post") (.str "fall") = false := by decide +kernel
theorem eq_post_rise : PyData.eqv (.str "post") (.str "rise") = false := by decide +kernel
theorem eq_post_tick : PyData.eqv (.str "post") (.str "tick") = false := by decide +kernel
theorem td_answer (h : VH) : toD 8 h (.str "answer") = some (.str "answer") := tdS h _ (by decide +kernel)
theorem eq_answer_say : PyData.eqv (.str "answer") (.str "say") = false := by decide +kernel
theorem eq_answer_post : PyData.eqv (.str "answer") (.str "post") = false := by decide +kernel
theorem eq_answer_answer : PyData.eqv (.str "answer") (.str "answer") = true := by decide +kernel
theorem eq_answer_bring : PyData.eqv (.str "answer") (.str "bring") = false := by decide +kernel
theorem eq_answer_lose : PyData.eqv (.str "answer") (.str "lose") = false := by decide +kernel
theorem eq_answer_fall : PyData.eqv (.str "answer") (.str "fall") = false := by decide +kernel
theorem eq_answer_rise : PyData.eqv (.str "answer") (.str "rise") = false := by decide +kernel
theorem eq_answer_tick : PyData.eqv (.str "answer") (.str "tick") = false := by decide +kernel
theorem td_bring (h : VH) : toD 8 h (.str "bring") = some (.str "bring") := tdS h _ (by decide +kernel)
theorem eq_bring_say : PyData.eqv (.str "bring") (.str "say") = false := by decide +kernel
theorem eq_bring_post : PyData.eqv (.str "bring") (.str "post") = false := by decide +kernel
theorem eq_bring_answer : PyData.eqv (.str "bring") (.str "answer") = false := by decide +kernel
theorem eq_bring_bring : PyData.eqv (.str "bring") (.str "bring") = true := by decide +kernel
theorem eq_bring_lose : PyData.eqv (.str "bring") (.str "lose") = false := by decide +kernel
theorem eq_bring_fall : PyData.eqv (.str "bring") (.str "fall") = false := by decide +kernel
theorem eq_bring_rise : PyData.eqv (.str "bring") (.str "rise") = false := by decide +kernel
theorem eq_bring_tick : PyData.eqv (.str "bring") (.str "tick") = false := by decide +kernel
theorem td_lose (h : VH) : toD 8 h (.str "lose") = some (.str "lose") := tdS h _ (by decide +kernel)
theorem eq_lose_say : PyData.eqv (.str "lose") (.str "say") = false := by decide +kernel
theorem eq_lose_post : PyData.eqv (.str "lose") (.str "post") = false := by decide +kernel
theorem eq_lose_answer : PyData.eqv (.str "lose") (.str "answer") = false := by decide +kernel
theorem eq_lose_bring : PyData.eqv (.str "lose") (.str "bring") = false := by decide +kernel
theorem eq_lose_lose : PyData.eqv (.str "lose") (.str "lose") = true := by decide +kernel
theorem eq_lose_fall : PyData.eqv (.str "lose") (.str "fall") = false := by decide +kernel
theorem eq_lose_rise : PyData.eqv (.str "lose") (.str "rise") = false := by decide +kernel
theorem eq_lose_tick : PyData.eqv (.str "lose") (.str "tick") = false := by decide +kernel
theorem td_fall (h : VH) : toD 8 h (.str "fall") = some (.str "fall") := tdS h _ (by decide +kernel)
theorem eq_fall_say : PyData.eqv (.str "fall") (.str "say") = false := by decide +kernel
theorem eq_fall_post : PyData.eqv (.str "fall") (.str "post") = false := by decide +kernel
theorem eq_fall_answer : PyData.eqv (.str "fall") (.str "answer") = false := by decide +kernel
theorem eq_fall_bring : PyData.eqv (.str "fall") (.str "bring") = false := by decide +kernel
theorem eq_fall_lose : PyData.eqv (.str "fall") (.str "lose") = false := by decide +kernel
theorem eq_fall_fall : PyData.eqv (.str "fall") (.str "fall") = true := by decide +kernel
theorem eq_fall_rise : PyData.eqv (.str "fall") (.str "rise") = false := by decide +kernel
theorem eq_fall_tick : PyData.eqv (.str "fall") (.str "tick") = false := by decide +kernel
theorem td_rise (h : VH) : toD 8 h (.str "rise") = some (.str "rise") := tdS h _ (by decide +kernel)
theorem eq_rise_say : PyData.eqv (.str "rise") (.str "say") = false := by decide +kernel
theorem eq_rise_post : PyData.eqv (.str "rise") (.str "post") = false := by decide +kernel
theorem eq_rise_answer : PyData.eqv (.str "rise") (.str "answer") = false := by decide +kernel
theorem eq_rise_bring : PyData.eqv (.str "rise") (.str "bring") = false := by decide +kernel
theorem eq_rise_lose : PyData.eqv (.str "rise") (.str "lose") = false := by decide +kernel
theorem eq_rise_fall : PyData.eqv (.str "rise") (.str "fall") = false := by decide +kernel
theorem eq_rise_rise : PyData.eqv (.str "rise") (.str "rise") = true := by decide +kernel
theorem eq_rise_tick : PyData.eqv (.str "rise") (.str "tick") = false := by decide +kernel
theorem td_tick (h : VH) : toD 8 h (.str "tick") = some (.str "tick") := tdS h _ (by decide +kernel)
theorem eq_tick_say : PyData.eqv (.str "tick") (.str "say") = false := by decide +kernel
theorem eq_tick_post : PyData.eqv (.str "tick") (.str "post") = false := by decide +kernel
theorem eq_tick_answer : PyData.eqv (.str "tick") (.str "answer") = false := by decide +kernel
theorem eq_tick_bring : PyData.eqv (.str "tick") (.str "bring") = false := by decide +kernel
theorem eq_tick_lose : PyData.eqv (.str "tick") (.str "lose") = false := by decide +kernel
theorem eq_tick_fall : PyData.eqv (.str "tick") (.str "fall") = false := by decide +kernel
theorem eq_tick_rise : PyData.eqv (.str "tick") (.str "rise") = false := by decide +kernel
theorem eq_tick_tick : PyData.eqv (.str "tick") (.str "tick") = true := by decide +kernel
def decD : W → Option Deed
  | .tup [.str a] => if a = "tick" then some .tick else none
  | .tup [.str a, .int p] => if a = "say" then some (.say p) else if a = "answer" then some (.answer p) else if a = "fall" then some (.fall p) else if a = "rise" then some (.rise p) else none
  | .tup [.str a, .int p, .int i] => if a = "post" then some (.post p i) else if a = "bring" then some (.bring p i) else if a = "lose" then some (.lose p i) else none
  | _ => none
theorem decD_enc : ∀ {w : W} {d : Deed}, decD w = some d → w = d.enc := by
  intro w d e
  unfold decD at e
  split at e
  · split at e
    · rename_i h; cases e; subst h; rfl
    · cases e
  · split at e
    · rename_i h; cases e; subst h; rfl
    split at e
    · rename_i h; cases e; subst h; rfl
    split at e
    · rename_i h; cases e; subst h; rfl
    split at e
    · rename_i h; cases e; subst h; rfl
    · cases e
  · split at e
    · rename_i h; cases e; subst h; rfl
    split at e
    · rename_i h; cases e; subst h; rfl
    split at e
    · rename_i h; cases e; subst h; rfl
    · cases e
  · cases e
theorem enc_decD : ∀ d : Deed, decD d.enc = some d := by
  intro d
  cases d <;> rfl
theorem cls_tk {h : VH} {n : Nat} {T : Tk} (e : h[n]? = some (.tk T)) : clsAt h n = some 0 := by simp [clsAt, e]
theorem do_deed_run (T : Tk) (g : T.Good Lim) (h : VH) (n : Nat) (hn : h[n]? = some (.tk T)) (d : Deed) : B_do_deed [.ref n, d.enc] h = some ((match (T.act d).1 with | .ok _ => .ok .non | .ex c => .ex c), h.set n (.tk (T.act d).2)) := by
  have hc := cls_tk hn
  cases d with
  | say w => cases q : (T.say w).1 <;> simp [-clsAt, B_do_deed, F_do_deed, runB, startV, Deed.enc, ixN, hc, tSay T g h n hn, q, Tk.act, td_say, td_post, td_answer, td_bring, td_lose, td_fall, td_rise, td_tick, eq_say_say, eq_say_post, eq_say_answer, eq_say_bring, eq_say_lose, eq_say_fall, eq_say_rise, eq_say_tick]
  | post p i => cases q : (T.post p i).1 <;> simp [-clsAt, B_do_deed, F_do_deed, runB, startV, Deed.enc, ixN, hc, tPost T g h n hn, q, Tk.act, td_say, td_post, td_answer, td_bring, td_lose, td_fall, td_rise, td_tick, eq_post_say, eq_post_post, eq_post_answer, eq_post_bring, eq_post_lose, eq_post_fall, eq_post_rise, eq_post_tick]
  | answer p => cases q : (T.answer p).1 <;> simp [-clsAt, B_do_deed, F_do_deed, runB, startV, Deed.enc, ixN, hc, tAnswer T g h n hn, q, Tk.act, td_say, td_post, td_answer, td_bring, td_lose, td_fall, td_rise, td_tick, eq_answer_say, eq_answer_post, eq_answer_answer, eq_answer_bring, eq_answer_lose, eq_answer_fall, eq_answer_rise, eq_answer_tick]
  | bring p i => cases q : (T.bring p i).1 <;> simp [-clsAt, B_do_deed, F_do_deed, runB, startV, Deed.enc, ixN, hc, tBring T g h n hn, q, Tk.act, td_say, td_post, td_answer, td_bring, td_lose, td_fall, td_rise, td_tick, eq_bring_say, eq_bring_post, eq_bring_answer, eq_bring_bring, eq_bring_lose, eq_bring_fall, eq_bring_rise, eq_bring_tick]
  | lose p i => cases q : (T.lose p i).1 <;> simp [-clsAt, B_do_deed, F_do_deed, runB, startV, Deed.enc, ixN, hc, tLose T g h n hn, q, Tk.act, td_say, td_post, td_answer, td_bring, td_lose, td_fall, td_rise, td_tick, eq_lose_say, eq_lose_post, eq_lose_answer, eq_lose_bring, eq_lose_lose, eq_lose_fall, eq_lose_rise, eq_lose_tick]
  | fall p => cases q : (T.fall p).1 <;> simp [-clsAt, B_do_deed, F_do_deed, runB, startV, Deed.enc, ixN, hc, tFall T g h n hn, q, Tk.act, td_say, td_post, td_answer, td_bring, td_lose, td_fall, td_rise, td_tick, eq_fall_say, eq_fall_post, eq_fall_answer, eq_fall_bring, eq_fall_lose, eq_fall_fall, eq_fall_rise, eq_fall_tick]
  | rise p => cases q : (T.rise p).1 <;> simp [-clsAt, B_do_deed, F_do_deed, runB, startV, Deed.enc, ixN, hc, tRise T g h n hn, q, Tk.act, td_say, td_post, td_answer, td_bring, td_lose, td_fall, td_rise, td_tick, eq_rise_say, eq_rise_post, eq_rise_answer, eq_rise_bring, eq_rise_lose, eq_rise_fall, eq_rise_rise, eq_rise_tick]
  | tick => cases q : (T.tick).1 <;> simp [-clsAt, B_do_deed, F_do_deed, runB, startV, Deed.enc, ixN, hc, tTick T g h n hn, q, Tk.act, td_say, td_post, td_answer, td_bring, td_lose, td_fall, td_rise, td_tick, eq_tick_say, eq_tick_post, eq_tick_answer, eq_tick_bring, eq_tick_lose, eq_tick_fall, eq_tick_rise, eq_tick_tick]
theorem play_loop (h : VH) (s : W) (ds : List Deed) (m w l : Int) (hs : lstAt h s = some (encS ds)) (hb : (1 ≤ m ∧ m ≤ 16) ∧ (1 ≤ w ∧ w ≤ 3) ∧ (1 ≤ l ∧ l ≤ 4)) (hd : ds.length ≤ 400000) :
    B_play [.int m, .int w, .int l, s] h = some (.ok (.tup [.ref h.length, (match (play (Tk.fresh m w l) ds 0).2 with | none => .non | some i => .int (i : Nat))]), h ++ [.tk (play (Tk.fresh m w l) ds 0).1]) := by
  have key : ∃ r h', B_play [.int m, .int w, .int l, s] h = some (r, h') ∧ (r = .ok (.tup [.ref h.length, (match (play (Tk.fresh m w l) ds 0).2 with | none => .non | some i => .int (i : Nat))]) ∧ h' = h ++ [.tk (play (Tk.fresh m w l) ds 0).1]) := by
    refine Run.fn rfl ?_
    unfold F_play
    have hmk := tMake m w l hb h
    refine Run.nx (fm1 := [some (.int m), some (.int w), some (.int l), some s, some (.ref h.length), none, none]) (h1 := h ++ [.tk (Tk.fresh m w l)]) (by simp [hmk]) ?_
    refine Run.seq ?_
    refine Run.for (enumL (encS ds)) (fun i fm h' => ∃ T, h' = h ++ [.tk T] ∧ T.Good i ∧ fm.length = 7 ∧ fm[4]? = some (some (.ref h.length)) ∧ i ≤ ds.length ∧ play (Tk.fresh m w l) ds 0 = play T (ds.drop i) i) (src := enumSrc s) (h1 := h ++ [.tk (Tk.fresh m w l)]) ?_ ?_ ?_ ?_ ?_ ?_
    · exact enum_ok (lstAt_app hs _) _ _ _ (by simp)
    · exact enum_cnt (lstAt_app hs _)
    · exact ⟨_, rfl, fresh_good hb.1.1, rfl, rfl, Nat.zero_le _, rfl⟩
    · rintro i fm h' ⟨T, rfl, _⟩
      exact enum_nx (lstAt_app hs _) i
    · rintro i x fm h' ei ⟨T, rfl, g, hl, f4, hi, ep⟩
      rw [enumL_get, encS_get] at ei
      cases hd' : ds[i]? with
      | none => rw [hd'] at ei; cases ei
      | some d =>
        rw [hd'] at ei
        cases ei
        have hlt : i < ds.length := (List.getElem?_eq_some_iff.mp hd').1
        have hdr : ds.drop i = d :: ds.drop (i + 1) := by
          rw [List.drop_eq_getElem_cons hlt]
          rw [List.getElem?_eq_getElem hlt] at hd'
          cases hd'
          rfl
        rw [hdr] at ep
        refine ⟨(fm.set 5 (some (.int (i : Nat)))).set 6 (some d.enc), by simp, ?_⟩
        have hn : (h ++ [Cell.tk T])[h.length]? = some (.tk T) := by simp
        have hr := do_deed_run T (g.mono (show i ≤ Lim by have : Lim = 500000 := rfl; omega)) (h ++ [.tk T]) h.length hn d
        have e4 : ((fm.set 5 (some (.int (i : Nat)))).set 6 (some d.enc))[4]? = some (some (.ref h.length)) := by simp [f4]
        have e5 : ((fm.set 5 (some (.int (i : Nat)))).set 6 (some d.enc))[5]? = some (some (.int (i : Nat))) := by simp [hl]
        have e6 : ((fm.set 5 (some (.int (i : Nat)))).set 6 (some d.enc))[6]? = some (some d.enc) := by simp [hl]
        have e0 : ∀ T', (h ++ [Cell.tk T]).set h.length (.tk T') = h ++ [.tk T'] := fun T' => by simp
        rw [e0] at hr
        have el : ((fm.set 5 (some (.int (i : Nat)))).set 6 (some d.enc)).length = 7 := by simp [hl]
        generalize (fm.set 5 (some (.int (i : Nat)))).set 6 (some d.enc) = fm1 at *
        cases q : (T.act d).1 with
        | ok x =>
          rw [play_ok q] at ep
          rw [q] at hr
          refine ⟨.nx, fm1, h ++ [.tk (T.act d).2], by simp [e4, e6, hr], (T.act d).2, rfl, act_good g d, el, e4, hlt, ?_⟩
          exact ep
        | ex c =>
          rw [play_ex q] at ep
          rw [q] at hr
          obtain ⟨z1, z2⟩ := act_ex q
          rw [z1] at hr
          have z2le : 2 ≤ sizeLine := by decide
          refine ⟨.rt (.tup [.ref h.length, .int (i : Nat)]), fm1, h ++ [.tk T], by simp [e4, e5, e6, hr, z2, z2le], ?_⟩
          show Rs.ok _ = _ ∧ _
          rw [ep]
          exact ⟨rfl, rfl⟩
    · rintro fm h' ⟨T, rfl, g, hl, f4, hi, ep⟩
      have z2le : 2 ≤ sizeLine := by decide
      rw [enumL_len] at ep
      simp only [encS, List.length_map, List.drop_length] at ep
      rw [play_nil] at ep
      refine ⟨.rt (.tup [.ref h.length, .non]), fm, h ++ [.tk T], by simp [f4, z2le], ?_⟩
      show Rs.ok _ = _ ∧ _
      rw [ep]
      exact ⟨rfl, rfl⟩
  obtain ⟨r, h', e, rfl, rfl⟩ := key
  exact e
def placeI : Option Nat → Int
  | none => -1
  | some i => (i : Nat)
def openL (N : Nat) (T : Tk) : VH := [.pl (.rcd 0 [.tup [.int T.marks, .int T.window, .int T.life], .ref (N + 1), .int T.known, .ref (N + 2), .ref (N + 3), .ref (N + 4), .ref (N + 7), .int T.now, .int T.last]), .pl (.lst (T.said.map W.int)), .pl (.lst (T.heard.map W.int)), .pl (.dct (encE T.early)), .pl (.lst [.ref (N + 5), .ref (N + 6)]), .pl (.lst (encR T.r0)), .pl (.lst (encR T.r1)), .pl (.lst [.bl T.u0, .bl T.u1])]
theorem openL_0 (h : VH) (T : Tk) : (h ++ openL h.length T)[h.length]? = some (.pl (.rcd 0 [.tup [.int T.marks, .int T.window, .int T.life], .ref (h.length + 1), .int T.known, .ref (h.length + 2), .ref (h.length + 3), .ref (h.length + 4), .ref (h.length + 7), .int T.now, .int T.last])) := by simp [openL]
theorem openL_1 (h : VH) (T : Tk) : (h ++ openL h.length T)[h.length + 1]? = some (.pl (.lst (T.said.map W.int))) := by rw [List.getElem?_append_right (by omega)]; simp [openL]
theorem openL_2 (h : VH) (T : Tk) : (h ++ openL h.length T)[h.length + 2]? = some (.pl (.lst (T.heard.map W.int))) := by rw [List.getElem?_append_right (by omega)]; simp [openL]
theorem td_ref {h : VH} {n : Nat} {xs : List Int} (e : h[n]? = some (.pl (.lst (xs.map W.int)))) : toD 8 h (.ref n) = some (.list (xs.map PyData.int)) := by
  show (match lstAt h (.ref n) with
      | some xs => (match mapO (toD 7 h) xs with
        | some ds => some (PyData.list ds)
        | none => none)
      | none => none) = _
  simp only [lstAt, e]
  rw [mapO_map (toD 7 h) W.int PyData.int (fun a => rfl)]
theorem sure_run (h : VH) (v : W) (m w l : Int) : B_Sure_shows [v, .int m, .int w, .int l] h = some (.ok (.bl (decide (2 * w + l ≤ m))), h) := by
  have o2 : mulOk 2 w = true := mul_l (by decide) (by decide)
  simp [B_Sure_shows, F_Sure_shows, runB, startV, o2]
end Pr

namespace Pr
open PySem PySem.Spec PyProof.Rows L2 Tw
def wordD : Deed → Str
  | .say _ => "say"
  | .post _ _ => "post"
  | .answer _ => "answer"
  | .bring _ _ => "bring"
  | .lose _ _ => "lose"
  | .fall _ => "fall"
  | .rise _ => "rise"
  | .tick => "tick"
def argsD : Deed → List Int
  | .say w => [w]
  | .post p n => [p, n]
  | .answer p => [p]
  | .bring p i => [p, i]
  | .lose p i => [p, i]
  | .fall p => [p]
  | .rise p => [p]
  | .tick => []
theorem enc_parts (d : Deed) : d.enc = .tup (.str (wordD d) :: (argsD d).map W.int) := by cases d <;> rfl
def dD (d : Deed) : PyData := .tuple (.str (wordD d) :: (argsD d).map PyData.int)
theorem td_enc (n : Nat) (h : VH) (d : Deed) : toD (n + 2) h d.enc = some (dD d) := by
  have hs : PyData.strOk (wordD d) = true := by cases d <;> (simp only [wordD]; decide +kernel)
  rw [enc_parts]
  show (match mapO (toD (n + 1) h) (.str (wordD d) :: (argsD d).map W.int) with
    | some ds => some (PyData.tuple ds)
    | none => none) = _
  have e1 : toD (n + 1) h (.str (wordD d)) = some (.str (wordD d)) := by
    show (if PyData.strOk (wordD d) = true then some (PyData.str (wordD d)) else none) = _
    rw [if_pos hs]
  rw [mapO, e1, mapO_map (toD (n + 1) h) W.int PyData.int (fun a => rfl)]
  rfl
theorem td_encS (n : Nat) (h : VH) (ds : List Deed) : toD (n + 3) h (.rl (encS ds)) = some (.list (ds.map dD)) := by
  show (match mapO (toD (n + 2) h) (encS ds) with
    | some ds => some (PyData.list ds)
    | none => none) = _
  unfold encS
  rw [mapO_map (toD (n + 2) h) Deed.enc dD (fun a => td_enc n h a)]
theorem eq_dD (d : Deed) : PyData.eqv (dD d) (dD d) = true := by
  cases d <;> simp [dD, argsD, PyData.eqv, PyData.eqvAll]
theorem eqA_dDs : ∀ ds : List Deed, PyData.eqvAll (ds.map dD) (ds.map dD) = true
  | [] => by simp [PyData.eqvAll]
  | d :: ds => by simp [PyData.eqvAll, eq_dD, eqA_dDs ds]
theorem eq_dDs (ds : List Deed) : PyData.eqv (.list (ds.map dD)) (.list (ds.map dD)) = true := by
  rw [PyData.eqv]; exact eqA_dDs ds
theorem wget_enc (d : Deed) : (tab_SIZES.lookup (wordD d)).getD 0 = ((argsD d).length : Int) + 1 := by cases d <;> rfl
theorem is_deed_run (d : Deed) (h : VH) : B_is_deed [d.enc] h = some (.ok (.bl true), h) := by
  have kT : kitB "tuple" "tuple" = some true := by decide
  have kS : kitB "str" "str" = some true := by decide
  have z0 : 0 ≤ sizeLine := by decide
  have t1 := td_enc 6 h d
  have t2 : toD 8 h (.tup []) = some (.tuple []) := rfl
  have e1 : PyData.eqv (dD d) (.tuple []) = false := by unfold dD; rw [PyData.eqv]; rfl
  have wg := wget_enc d
  have ei : ∀ i j : Int, PyData.eqv (.int i) (.int j) = decide (i = j) := fun i j => by rw [PyData.eqv]; by_cases q : i = j <;> simp [q]
  have c1 : fCB gAll [(fLcR (fIt (fSl gSlR (fVar 0) (fPart (fC (.int 1))) fNo)) 1 [1] fYes (fCall B_is_whole [(fVar 1)]))] [some d.enc, none] h = some (.ok (.bl true), h) := by
    refine all_comp W.int (argsD d) (src := .tup ((argsD d).map W.int)) ?_ ?_ ?_ ?_ ?_
    · cases d <;> simp [Deed.enc, argsD, cutW, HT.sIx]
    · cases d <;> exact sz' (by simp [argsD])
    · simp [Sc.cnt]
    · intro j; rfl
    · intro b _
      simp [wipeV, whole_int]
  unfold B_is_deed F_is_deed
  generalize fCB gAll [(fLcR (fIt (fSl gSlR (fVar 0) (fPart (fC (.int 1))) fNo)) 1 [1] fYes (fCall B_is_whole [(fVar 1)]))] = s1 at c1 ⊢
  have ix0 : ixN ((argsD d).length + 1) 0 = some 0 := by simp [ixN]
  rw [enc_parts] at c1 t1 ⊢
  simp [isiB, kT, kS, z0, t1, t2, e1, ix0, wg, tdI, ei, c1]
theorem isi_rl (h : VH) (xs : List W) : isiB "list" h (.rl xs) = some true := by
  have kL : kitB "list" "list" = some true := by decide
  simp [isiB, kL]
theorem len_list {s : W} {xs : List W} {h : VH} (e : lstAt h s = some xs) : gLen [s] h = some (.int xs.length, h) := by
  cases s with
  | ref n => show (match lstAt h (.ref n) with
      | some xs => some (W.int xs.length, h)
      | none => none) = _
             rw [e]
  | rl ys =>
    have : ys = xs := by simpa [lstAt] using e
    subst this
    rfl
  | _ => simp [lstAt] at e
abbrev okB (m w l : Int) : Prop := (1 ≤ m ∧ m ≤ 16) ∧ (1 ≤ w ∧ w ≤ 3) ∧ (1 ≤ l ∧ l ≤ 4)
/-- what told makes of a story -/
def toldC (N : Nat) (m w l : Int) (ds : List Deed) : VH := match play (Tk.fresh m w l) ds 0 with
  | (T, none) => [.tk T, .pl (.ins 1 [.ref (N + 2)]), .pl (.lst (T.heard.map W.int))]
  | (T, some i) => [.tk T, .pl (.ins 2 [.int (i : Nat)])]
theorem told_run (m w l : Int) (hb : okB m w l) (h : VH) (ds : List Deed) (s : W) (hs : lstAt h s = some (encS ds)) (hi : isiB "list" h s = some true) (hl : ds.length ≤ 200) : B_told [.int m, .int w, .int l, s] h = some (.ok (.ref (h.length + 1)), h ++ toldC h.length m w l ds) := by
  have hp := play_loop h s ds m w l hs hb (by omega)
  have gT := play_good ds 0 (fresh_good (m := m) (w := w) (l := l) hb.1.1)
  have gl := gT.mono (show 0 + ds.length ≤ Lim by have : Lim = 500000 := rfl; omega)
  have eL : (encS ds).length = ds.length := by simp [encS]
  have hl' : ¬ (200 : Int) < ds.length := by omega
  have bd := bounds_run m w l h hb.1 hb.2.1 hb.2.2
  have c1 : fCB gAll [(fLcR (fIl (fVar 3)) 6 [6] fYes (fCall B_is_deed [(fVar 6)]))] [some (.int m), some (.int w), some (.int l), some s, none, none, none] h = some (.ok (.bl true), h) :=
    all_comp Deed.enc ds (list_ok hs _ _ _ (by simp)) (sz' (by omega)) (by rw [list_cnt hs, eL]) (fun j => list_nx hs j) fun a _ => by simp [wipeV, is_deed_run]
  have hlen : fCB gLen [(fVar 3)] [some (.int m), some (.int w), some (.int l), some s, none, none, none] h = some (.ok (.int ds.length), h) := by
    have := len_list hs
    rw [eL] at this
    simp only [fCB, fAll, fVar, List.getElem?_cons_succ, List.getElem?_cons_zero, Tw.bindM, this, Tw.retM]
  unfold B_told F_told toldC
  generalize fCB gAll [(fLcR (fIl (fVar 3)) 6 [6] fYes (fCall B_is_deed [(fVar 6)]))] = s1 at c1 ⊢
  generalize fCB gLen [(fVar 3)] = s2 at hlen ⊢
  have ep : play (Tk.fresh m w l) ds 0 = ((play (Tk.fresh m w l) ds 0).1, (play (Tk.fresh m w l) ds 0).2) := rfl
  generalize hT : (play (Tk.fresh m w l) ds 0).1 = T at *
  have hnT : (h ++ [Cell.tk T])[h.length]? = some (.tk T) := by simp
  have hc := cls_tk hnT
  have h1 := tHeard T gl (h ++ [.tk T]) h.length hnT
  cases q : (play (Tk.fresh m w l) ds 0).2 with
  | none =>
    rw [q] at hp ep
    have hi1 : B_Done_init [.ref (h.length + 1), .rl (T.heard.map W.int)] (h ++ [.tk T, .pl (.ins 1 [])]) = some (.ok .non, h ++ [.tk T, .pl (.ins 1 [.ref (h.length + 2)]), .pl (.lst (T.heard.map W.int))]) := by
      have : (h ++ [Cell.tk T, Cell.pl (.ins 1 [])])[h.length + 1]? = some (.pl (.ins 1 [])) := by rw [List.getElem?_append_right (by omega)]; simp
      have hset : (h ++ [Cell.tk T, Cell.pl (.ins 1 []), Cell.pl (.lst (T.heard.map W.int))]).set (h.length + 1) (.pl (.ins 1 [.ref (h.length + 2)])) = h ++ [.tk T, .pl (.ins 1 [.ref (h.length + 2)]), .pl (.lst (T.heard.map W.int))] := by rw [List.set_append_right _ _ (by omega)]; simp
      have g2 : (h ++ [Cell.tk T, Cell.pl (.ins 1 []), Cell.pl (.lst (T.heard.map W.int))])[h.length + 1]? = some (.pl (.ins 1 [])) := by rw [List.getElem?_append_right (by omega)]; simp
      simp [B_Done_init, F_Done_init, runB, startV, g2, hset]
    rw [ep]
    simp [-clsAt, bd, hi, hlen, hl', c1, hp, hc, h1, hi1]
  | some i =>
    rw [q] at hp ep
    have hi2 : B_Halt_init [.ref (h.length + 1), .int (i : Nat)] (h ++ [.tk T, .pl (.ins 2 [])]) = some (.ok .non, h ++ [.tk T, .pl (.ins 2 [.int (i : Nat)])]) := by
      have g2 : (h ++ [Cell.tk T, Cell.pl (.ins 2 [])])[h.length + 1]? = some (.pl (.ins 2 [])) := by rw [List.getElem?_append_right (by omega)]; simp
      have hset : (h ++ [Cell.tk T, Cell.pl (.ins 2 [])]).set (h.length + 1) (.pl (.ins 2 [.int (i : Nat)])) = h ++ [.tk T, .pl (.ins 2 [.int (i : Nat)])] := by rw [List.set_append_right _ _ (by omega)]; simp
      simp [B_Halt_init, F_Halt_init, runB, startV, g2, hset]
    rw [ep]
    simp [-clsAt, bd, hi, hlen, hl', c1, hp, hi2]
theorem cut_drop (xs : List W) (n : Nat) (hn : n ≤ xs.length) : cutW xs (some (n : Int)) none = xs.drop n := by
  unfold cutW
  rw [HT.sIx_nat, HT.sIx_none, Nat.min_eq_left hn]
  exact List.take_of_length_le (by simp)
/-- the slots outside S stay -/
structure Kp (S : List Nat) (fm fm' : Fm) : Prop where
  len : fm'.length = fm.length
  at_ : ∀ j, j ∉ S → fm'[j]? = fm[j]?
theorem Kp.rfl {S : List Nat} {fm : Fm} : Kp S fm fm := ⟨_root_.rfl, fun _ _ => _root_.rfl⟩
theorem Kp.set {S : List Nat} {fm fm' : Fm} (k : Kp S fm fm') {i : Nat} (hi : i ∈ S) (x : Option W) : Kp S fm (fm'.set i x) := by
  refine ⟨by rw [List.length_set]; exact k.len, fun j hj => ?_⟩
  rw [List.getElem?_set_ne (fun e => hj (by rw [← e]; exact hi))]
  exact k.at_ j hj
theorem Kp.trans {S S' : List Nat} {a b c : Fm} (k : Kp S a b) (k' : Kp S' b c) : Kp (S ++ S') a c := ⟨k'.len.trans k.len, fun j hj => (k'.at_ j fun h => hj (List.mem_append_right _ h)).trans (k.at_ j fun h => hj (List.mem_append_left _ h))⟩
theorem set_at {fm : Fm} {i : Nat} (h : i < fm.length) (x : Option W) : (fm.set i x)[i]? = some x := by simp [h]
theorem get_lt {A : Type} {h : List A} {n : Nat} {c : A} (e : h[n]? = some c) : n < h.length := (List.getElem?_eq_some_iff.mp e).1
theorem get_snoc {h : VH} {n : Nat} {c : Cell} (e : h[n]? = some c) (g : VH) : (h ++ g)[n]? = some c := by
  rw [List.getElem?_append_left (List.getElem?_eq_some_iff.mp e).1]; exact e
theorem eqI' (i j : Int) : PyData.eqv (.int i) (.int j) = decide (i = j) := by rw [PyData.eqv]; by_cases q : i = j <;> simp [q]
theorem encS_append (a b : List Deed) : encS (a ++ b) = encS a ++ encS b := by simp [encS]
theorem encS_len (a : List Deed) : (encS a).length = a.length := by simp [encS]
theorem encS_take (a : List Deed) (n : Nat) : (encS a).take n = encS (a.take n) := by simp [encS, List.map_take]
theorem encS_drop (a : List Deed) (n : Nat) : (encS a).drop n = encS (a.drop n) := by simp [encS, List.map_drop]
theorem td_lst {h : VH} {s : W} {xs : List Int} (e : lstAt h s = some (xs.map W.int)) : toD 8 h s = some (.list (xs.map PyData.int)) := by
  have k : (match lstAt h s with
      | some xs => (match mapO (toD 7 h) xs with
        | some ds => some (PyData.list ds)
        | none => none)
      | none => none) = some (PyData.list (xs.map PyData.int)) := by
    rw [e]
    simp only
    rw [mapO_map (toD 7 h) W.int PyData.int (fun a => rfl)]
  cases s with
  | ref n => exact k
  | rl ys => exact k
  | _ => simp [lstAt] at e
/-- what a Done, a Halt says of a story -/
def toldSay (a : List Int ⊕ Int) (m w l : Int) (ds : List Deed) : Bool := match a, play (Tk.fresh m w l) ds 0 with
  | .inl ws, (T, none) => decide (ws = T.heard)
  | .inr p, (_, some i) => decide (p = (i : Nat))
  | _, _ => false
def AnsT (h : VH) (n : Nat) : List Int ⊕ Int → Prop
  | .inl ws => ∃ s, h[n]? = some (.pl (.ins 1 [s])) ∧ lstAt h s = some (ws.map W.int)
  | .inr p => h[n]? = some (.pl (.ins 2 [.int p]))
theorem AnsT.app {h : VH} {n : Nat} {a : List Int ⊕ Int} (A : AnsT h n a) (g : VH) : AnsT (h ++ g) n a := by
  cases a with
  | inl ws =>
    obtain ⟨s, h1, h2⟩ := A
    exact ⟨s, get_snoc h1 g, lstAt_app h2 g⟩
  | inr p => exact get_snoc (show h[n]? = some (.pl (.ins 2 [.int p])) from A) g
section
variable (h : VH) (n : Nat) (s : W) (ds : List Deed) (m w l : Int) (hs : lstAt h s = some (encS ds)) (hb : okB m w l) (hd : ds.length ≤ 400000)
include hs hb hd
theorem dshows_run (ws : List Int) (A : AnsT h n (.inl ws)) : T_Done_shows [.ref n, .int m, .int w, .int l, s] h = some (.ok (.bl (toldSay (.inl ws) m w l ds)), h) := by
  have hp := play_loop h s ds m w l hs hb hd
  have gT := play_good ds 0 (fresh_good (m := m) (w := w) (l := l) hb.1.1)
  have gl := gT.mono (show 0 + ds.length ≤ Lim by have : Lim = 500000 := rfl; omega)
  have ep : play (Tk.fresh m w l) ds 0 = ((play (Tk.fresh m w l) ds 0).1, (play (Tk.fresh m w l) ds 0).2) := rfl
  generalize hT : (play (Tk.fresh m w l) ds 0).1 = T at *
  have hnT : (h ++ [Cell.tk T])[h.length]? = some (.tk T) := by simp
  have hc := cls_tk hnT
  have h1 := tHeard T gl (h ++ [.tk T]) h.length hnT
  obtain ⟨s', a1, a2⟩ := A.app [.tk T]
  have t1 := td_lst a2
  have t9 : toD 8 (h ++ [.tk T]) (.rl (T.heard.map W.int)) = some (.list (T.heard.map PyData.int)) := td_ints 6 _ _
  have e1 : B_Done_shows [.ref n, .int m, .int w, .int l, s] h = some (.ok (.bl (toldSay (.inl ws) m w l ds)), h ++ [.tk T]) := by
    unfold toldSay
    rw [ep]
    cases q : (play (Tk.fresh m w l) ds 0).2 with
    | some i =>
      rw [q] at hp
      simp [-clsAt, B_Done_shows, F_Done_shows, runB, startV, hp]
    | none =>
      rw [q] at hp
      generalize h ++ [Cell.tk T] = hh at *
      simp [-clsAt, B_Done_shows, F_Done_shows, runB, startV, hp, a1, hc, h1, t1, t9, eq_ints]
  exact trimC_app e1 (.bl _)
theorem hshows_run (p : Int) (A : AnsT h n (.inr p)) : T_Halt_shows [.ref n, .int m, .int w, .int l, s] h = some (.ok (.bl (toldSay (.inr p) m w l ds)), h) := by
  have hp := play_loop h s ds m w l hs hb hd
  have ep : play (Tk.fresh m w l) ds 0 = ((play (Tk.fresh m w l) ds 0).1, (play (Tk.fresh m w l) ds 0).2) := rfl
  generalize hT : (play (Tk.fresh m w l) ds 0).1 = T at *
  have a1 : (h ++ [.tk T])[n]? = some (.pl (.ins 2 [.int p])) := A.app [.tk T]
  have e1 : B_Halt_shows [.ref n, .int m, .int w, .int l, s] h = some (.ok (.bl (toldSay (.inr p) m w l ds)), h ++ [.tk T]) := by
    unfold toldSay
    rw [ep]
    cases q : (play (Tk.fresh m w l) ds 0).2 with
    | some i =>
      rw [q] at hp
      generalize h ++ [Cell.tk T] = hh at *
      simp [-clsAt, B_Halt_shows, F_Halt_shows, runB, startV, hp, a1, ixN, tdI, eqI']
    | none =>
      rw [q] at hp
      simp [-clsAt, B_Halt_shows, F_Halt_shows, runB, startV, hp, ixN]
  exact trimC_app e1 (.bl _)
theorem shows_run (a : List Int ⊕ Int) (A : AnsT h n a) (fm : Fm) (h0 : VH) (fo f1 f2 f3 f4 : FE) (e0 : fo fm h0 = some (.ok (.ref n), h)) (e1 : f1 fm h = some (.ok (.int m), h)) (e2 : f2 fm h = some (.ok (.int w), h)) (e3 : f3 fm h = some (.ok (.int l), h)) (e4 : f4 fm h = some (.ok s, h)) :
    fAlt (fMeth 1 T_Done_shows fo [f1, f2, f3, f4]) (fMeth 2 T_Halt_shows fo [f1, f2, f3, f4]) fm h0 = some (.ok (.bl (toldSay a m w l ds)), h) := by
  cases a with
  | inl ws =>
    have r := dshows_run h n s ds m w l hs hb hd ws A
    obtain ⟨s', a1, a2⟩ := A
    simp [e0, e1, e2, e3, e4, a1, r]
  | inr p =>
    have r := hshows_run h n s ds m w l hs hb hd p A
    have a1 : h[n]? = some (.pl (.ins 2 [.int p])) := A
    simp [e0, e1, e2, e3, e4, a1, r]
end
end Pr

namespace Pr
open PySem PySem.Spec PyProof.Rows L2 Tw
def U_ref (c : Nat) : FSt := (fSeq (fSet 4 (fLst [(fC (.bl (decide (c = 11)))), (fC (.bl (decide (c = 12)))), (fC (.bl (decide (c = 13))))]))
    (fSeq (fSet 4 (fBin gAddO (fVar 4) (fLstR [(fC (.bl (decide (c = 14)))), (fC (.bl (decide (c = 15)))), (fC (.bl (decide (c = 16))))])))
    (fSeq (fSet 4 (fBin gAddO (fVar 4) (fLstR [(fC (.bl (decide (c = 17)))), (fC (.bl (decide (c = 18)))), (fC (.bl (decide (c = 19))))])))
    (fSeq (fDo (fLM gApp (fVar 4) [(fC (.bl (decide (c = 20))))]))
    (fRet (fAndV (fBin gEq (fVar 4) (fLcR (fIr1 (fC (.int 10))) 5 [5] fYes (fBin gEq (fVar 5) (fVar 2)))) (fC (.bl true))))))))
theorem F_ref_eq : F__law_refused = fSeq (fTryAs catE 3 (fDo (fLcall1 arOf fbOf 0 1)) U_ref) (fRet (fC (.bl false))) := rfl
theorem td_rowR {h : VH} {s : W} {xs : List W} {ds : List PyData} (e : lstAt h s = some xs) (m : mapO (toD 7 h) xs = some ds) : toD 8 h s = some (.list ds) := by
  have k : (match lstAt h s with
      | some xs => (match mapO (toD 7 h) xs with
        | some ds => some (PyData.list ds)
        | none => none)
      | none => none) = some (PyData.list ds) := by
    rw [e]
    simp only
    rw [m]
  cases s with
  | ref n => exact k
  | rl ys => exact k
  | _ => simp [lstAt] at e
theorem eqIr (i j : Int) : PyData.eqv (.int i) (.int j) = decide (i = j) := by rw [PyData.eqv]; by_cases q : i = j <;> simp [q]
theorem rng_nxr (lo : Int) (n j : Nat) (h : VH) : (Sc.rng lo n).nx h j = some (((List.range n).map fun i : Nat => W.int (lo + (i : Nat)))[j]?) := by
  simp only [Sc.nx, List.getElem?_map]
  by_cases q : j < n
  · rw [if_pos q, List.getElem?_range q]
    rfl
  · rw [if_neg q, List.getElem?_eq_none (by simpa using q)]
    rfl
theorem suite_11 (w1 w2 : W) (h : VH) : ∃ fm g, U_ref 11 [some w1, some w2, some (.int 0), none, none, none] h = some (.rt (.bl true), fm, h ++ g) := by
  have z3 : 3 ≤ sizeLine := by decide
  have z6 : 6 ≤ sizeLine := by decide
  have z9 : 9 ≤ sizeLine := by decide
  have z9' : 9 < sizeLine := by decide
  generalize hbs : [W.bl true, .bl false, .bl false, .bl false, .bl false, .bl false, .bl false, .bl false, .bl false, .bl false] = bs
  generalize hg : [Cell.pl (.lst [.bl true, .bl false, .bl false]), .pl (.lst [.bl true, .bl false, .bl false, .bl false, .bl false, .bl false]), .pl (.lst bs)] = g
  have lc : ∀ H : VH, fLcR (fIr1 (fC (.int 10))) 5 [5] fYes (fBin gEq (fVar 5) (fVar 2)) [some w1, some w2, some (.int 0), none, some (.ref (h.length + 2)), none] H = some (.ok (.rl bs), H) := fun H => by
    have := fLcR_run (ft := fYes) (fi := fIr1 (fC (.int 10))) (src := .rng 0 10) (i0 := 5) (vs := [5]) (fe := fBin gEq (fVar 5) (fVar 2)) (fm := [some w1, some w2, some (.int 0), none, some (.ref (h.length + 2)), none]) (h := H) (fun i : Nat => W.int (0 + (i : Nat))) (fun _ => true) (fun i : Nat => W.bl (decide ((0 + (i : Nat) : Int) = 0))) (List.range 10) (by simp) (by decide) rfl (fun j => rng_nxr 0 10 j H) (fun a _ => rfl) (fun a _ _ => by simp [wipeV, tdI, eqIr])
    rw [this, ← hbs]
    rfl
  refine ⟨[some w1, some w2, some (.int 0), none, some (.ref (h.length + 2)), none], g, ?_⟩
  unfold U_ref
  generalize fLcR (fIr1 (fC (.int 10))) 5 [5] fYes (fBin gEq (fVar 5) (fVar 2)) = fl at *
  have q1 : (h ++ [Cell.pl (.lst [.bl true, .bl false, .bl false])])[h.length]? = some (.pl (.lst [.bl true, .bl false, .bl false])) := by simp
  have q2 : (h ++ [Cell.pl (.lst [.bl true, .bl false, .bl false]), .pl (.lst [.bl true, .bl false, .bl false, .bl false, .bl false, .bl false])])[h.length + 1]? = some (.pl (.lst [.bl true, .bl false, .bl false, .bl false, .bl false, .bl false])) := by rw [List.getElem?_append_right (by omega)]; simp
  have q3 : (h ++ [Cell.pl (.lst [.bl true, .bl false, .bl false]), .pl (.lst [.bl true, .bl false, .bl false, .bl false, .bl false, .bl false]), .pl (.lst [.bl true, .bl false, .bl false, .bl false, .bl false, .bl false, .bl false, .bl false, .bl false])])[h.length + 2]? = some (.pl (.lst [.bl true, .bl false, .bl false, .bl false, .bl false, .bl false, .bl false, .bl false, .bl false])) := by rw [List.getElem?_append_right (by omega)]; simp
  have q4 : (h ++ [Cell.pl (.lst [.bl true, .bl false, .bl false]), .pl (.lst [.bl true, .bl false, .bl false, .bl false, .bl false, .bl false]), .pl (.lst [.bl true, .bl false, .bl false, .bl false, .bl false, .bl false, .bl false, .bl false, .bl false])]).set (h.length + 2) (.pl (.lst bs)) = h ++ g := by rw [List.set_append_right _ _ (by omega), ← hg]; simp
  have q5 : (h ++ g)[h.length + 2]? = some (.pl (.lst bs)) := by rw [List.getElem?_append_right (by omega), ← hg]; simp
  have lcg := lc (h ++ g)
  have t1 : toD 8 (h ++ g) (.ref (h.length + 2)) = some (.list [.bool true, .bool false, .bool false, .bool false, .bool false, .bool false, .bool false, .bool false, .bool false, .bool false]) := td_rowR (xs := bs) (by simp [lstAt, q5]) (by rw [← hbs]; rfl)
  have t2 : toD 8 (h ++ g) (.rl bs) = some (.list [.bool true, .bool false, .bool false, .bool false, .bool false, .bool false, .bool false, .bool false, .bool false, .bool false]) := td_rowR (xs := bs) rfl (by rw [← hbs]; rfl)
  have eq : PyData.eqv (.list [.bool true, .bool false, .bool false, .bool false, .bool false, .bool false, .bool false, .bool false, .bool false, .bool false]) (.list [.bool true, .bool false, .bool false, .bool false, .bool false, .bool false, .bool false, .bool false, .bool false, .bool false]) = true := by decide +kernel
  have ebs : [W.bl true, .bl false, .bl false, .bl false, .bl false, .bl false, .bl false, .bl false, .bl false] ++ [W.bl false] = bs := by rw [← hbs]; rfl
  generalize h ++ g = HG at *
  simp [z3, z6, z9, z9', q1, q2, q3, ebs, q4, lcg, t1, t2, eq]
theorem refused_11 (w1 w2 : W) (h h1 : VH) (hl : fLcall1 arOf fbOf 0 1 [some w1, some w2, some (.int 0), none, none, none] h = some (.ex 11, h1)) : ∃ g, B__law_refused [w1, w2, .int 0] h = some (.ok (.bl true), h1 ++ g) := by
  obtain ⟨fm, g, e⟩ := suite_11 w1 w2 h1
  have hc : catE 11 = some true := by decide
  refine ⟨g, ?_⟩
  unfold B__law_refused
  rw [F_ref_eq]
  generalize fLcall1 arOf fbOf 0 1 = fl at hl ⊢
  generalize U_ref = U at e ⊢
  simp [runB, startV, hl, hc, e]
theorem suite_12 (w1 w2 : W) (h : VH) : ∃ fm g, U_ref 12 [some w1, some w2, some (.int 1), none, none, none] h = some (.rt (.bl true), fm, h ++ g) := by
  have z3 : 3 ≤ sizeLine := by decide
  have z6 : 6 ≤ sizeLine := by decide
  have z9 : 9 ≤ sizeLine := by decide
  have z9' : 9 < sizeLine := by decide
  generalize hbs : [W.bl false, .bl true, .bl false, .bl false, .bl false, .bl false, .bl false, .bl false, .bl false, .bl false] = bs
  generalize hg : [Cell.pl (.lst [.bl false, .bl true, .bl false]), .pl (.lst [.bl false, .bl true, .bl false, .bl false, .bl false, .bl false]), .pl (.lst bs)] = g
  have lc : ∀ H : VH, fLcR (fIr1 (fC (.int 10))) 5 [5] fYes (fBin gEq (fVar 5) (fVar 2)) [some w1, some w2, some (.int 1), none, some (.ref (h.length + 2)), none] H = some (.ok (.rl bs), H) := fun H => by
    have := fLcR_run (ft := fYes) (fi := fIr1 (fC (.int 10))) (src := .rng 0 10) (i0 := 5) (vs := [5]) (fe := fBin gEq (fVar 5) (fVar 2)) (fm := [some w1, some w2, some (.int 1), none, some (.ref (h.length + 2)), none]) (h := H) (fun i : Nat => W.int (0 + (i : Nat))) (fun _ => true) (fun i : Nat => W.bl (decide ((0 + (i : Nat) : Int) = 1))) (List.range 10) (by simp) (by decide) rfl (fun j => rng_nxr 0 10 j H) (fun a _ => rfl) (fun a _ _ => by simp [wipeV, tdI, eqIr])
    rw [this, ← hbs]
    rfl
  refine ⟨[some w1, some w2, some (.int 1), none, some (.ref (h.length + 2)), none], g, ?_⟩
  unfold U_ref
  generalize fLcR (fIr1 (fC (.int 10))) 5 [5] fYes (fBin gEq (fVar 5) (fVar 2)) = fl at *
  have q1 : (h ++ [Cell.pl (.lst [.bl false, .bl true, .bl false])])[h.length]? = some (.pl (.lst [.bl false, .bl true, .bl false])) := by simp
  have q2 : (h ++ [Cell.pl (.lst [.bl false, .bl true, .bl false]), .pl (.lst [.bl false, .bl true, .bl false, .bl false, .bl false, .bl false])])[h.length + 1]? = some (.pl (.lst [.bl false, .bl true, .bl false, .bl false, .bl false, .bl false])) := by rw [List.getElem?_append_right (by omega)]; simp
  have q3 : (h ++ [Cell.pl (.lst [.bl false, .bl true, .bl false]), .pl (.lst [.bl false, .bl true, .bl false, .bl false, .bl false, .bl false]), .pl (.lst [.bl false, .bl true, .bl false, .bl false, .bl false, .bl false, .bl false, .bl false, .bl false])])[h.length + 2]? = some (.pl (.lst [.bl false, .bl true, .bl false, .bl false, .bl false, .bl false, .bl false, .bl false, .bl false])) := by rw [List.getElem?_append_right (by omega)]; simp
  have q4 : (h ++ [Cell.pl (.lst [.bl false, .bl true, .bl false]), .pl (.lst [.bl false, .bl true, .bl false, .bl false, .bl false, .bl false]), .pl (.lst [.bl false, .bl true, .bl false, .bl false, .bl false, .bl false, .bl false, .bl false, .bl false])]).set (h.length + 2) (.pl (.lst bs)) = h ++ g := by rw [List.set_append_right _ _ (by omega), ← hg]; simp
  have q5 : (h ++ g)[h.length + 2]? = some (.pl (.lst bs)) := by rw [List.getElem?_append_right (by omega), ← hg]; simp
  have lcg := lc (h ++ g)
  have t1 : toD 8 (h ++ g) (.ref (h.length + 2)) = some (.list [.bool false, .bool true, .bool false, .bool false, .bool false, .bool false, .bool false, .bool false, .bool false, .bool false]) := td_rowR (xs := bs) (by simp [lstAt, q5]) (by rw [← hbs]; rfl)
  have t2 : toD 8 (h ++ g) (.rl bs) = some (.list [.bool false, .bool true, .bool false, .bool false, .bool false, .bool false, .bool false, .bool false, .bool false, .bool false]) := td_rowR (xs := bs) rfl (by rw [← hbs]; rfl)
  have eq : PyData.eqv (.list [.bool false, .bool true, .bool false, .bool false, .bool false, .bool false, .bool false, .bool false, .bool false, .bool false]) (.list [.bool false, .bool true, .bool false, .bool false, .bool false, .bool false, .bool false, .bool false, .bool false, .bool false]) = true := by decide +kernel
  have ebs : [W.bl false, .bl true, .bl false, .bl false, .bl false, .bl false, .bl false, .bl false, .bl false] ++ [W.bl false] = bs := by rw [← hbs]; rfl
  generalize h ++ g = HG at *
  simp [z3, z6, z9, z9', q1, q2, q3, ebs, q4, lcg, t1, t2, eq]
theorem refused_12 (w1 w2 : W) (h h1 : VH) (hl : fLcall1 arOf fbOf 0 1 [some w1, some w2, some (.int 1), none, none, none] h = some (.ex 12, h1)) : ∃ g, B__law_refused [w1, w2, .int 1] h = some (.ok (.bl true), h1 ++ g) := by
  obtain ⟨fm, g, e⟩ := suite_12 w1 w2 h1
  have hc : catE 12 = some true := by decide
  refine ⟨g, ?_⟩
  unfold B__law_refused
  rw [F_ref_eq]
  generalize fLcall1 arOf fbOf 0 1 = fl at hl ⊢
  generalize U_ref = U at e ⊢
  simp [runB, startV, hl, hc, e]
theorem suite_13 (w1 w2 : W) (h : VH) : ∃ fm g, U_ref 13 [some w1, some w2, some (.int 2), none, none, none] h = some (.rt (.bl true), fm, h ++ g) := by
  have z3 : 3 ≤ sizeLine := by decide
  have z6 : 6 ≤ sizeLine := by decide
  have z9 : 9 ≤ sizeLine := by decide
  have z9' : 9 < sizeLine := by decide
  generalize hbs : [W.bl false, .bl false, .bl true, .bl false, .bl false, .bl false, .bl false, .bl false, .bl false, .bl false] = bs
  generalize hg : [Cell.pl (.lst [.bl false, .bl false, .bl true]), .pl (.lst [.bl false, .bl false, .bl true, .bl false, .bl false, .bl false]), .pl (.lst bs)] = g
  have lc : ∀ H : VH, fLcR (fIr1 (fC (.int 10))) 5 [5] fYes (fBin gEq (fVar 5) (fVar 2)) [some w1, some w2, some (.int 2), none, some (.ref (h.length + 2)), none] H = some (.ok (.rl bs), H) := fun H => by
    have := fLcR_run (ft := fYes) (fi := fIr1 (fC (.int 10))) (src := .rng 0 10) (i0 := 5) (vs := [5]) (fe := fBin gEq (fVar 5) (fVar 2)) (fm := [some w1, some w2, some (.int 2), none, some (.ref (h.length + 2)), none]) (h := H) (fun i : Nat => W.int (0 + (i : Nat))) (fun _ => true) (fun i : Nat => W.bl (decide ((0 + (i : Nat) : Int) = 2))) (List.range 10) (by simp) (by decide) rfl (fun j => rng_nxr 0 10 j H) (fun a _ => rfl) (fun a _ _ => by simp [wipeV, tdI, eqIr])
    rw [this, ← hbs]
    rfl
  refine ⟨[some w1, some w2, some (.int 2), none, some (.ref (h.length + 2)), none], g, ?_⟩
  unfold U_ref
  generalize fLcR (fIr1 (fC (.int 10))) 5 [5] fYes (fBin gEq (fVar 5) (fVar 2)) = fl at *
  have q1 : (h ++ [Cell.pl (.lst [.bl false, .bl false, .bl true])])[h.length]? = some (.pl (.lst [.bl false, .bl false, .bl true])) := by simp
  have q2 : (h ++ [Cell.pl (.lst [.bl false, .bl false, .bl true]), .pl (.lst [.bl false, .bl false, .bl true, .bl false, .bl false, .bl false])])[h.length + 1]? = some (.pl (.lst [.bl false, .bl false, .bl true, .bl false, .bl false, .bl false])) := by rw [List.getElem?_append_right (by omega)]; simp
  have q3 : (h ++ [Cell.pl (.lst [.bl false, .bl false, .bl true]), .pl (.lst [.bl false, .bl false, .bl true, .bl false, .bl false, .bl false]), .pl (.lst [.bl false, .bl false, .bl true, .bl false, .bl false, .bl false, .bl false, .bl false, .bl false])])[h.length + 2]? = some (.pl (.lst [.bl false, .bl false, .bl true, .bl false, .bl false, .bl false, .bl false, .bl false, .bl false])) := by rw [List.getElem?_append_right (by omega)]; simp
  have q4 : (h ++ [Cell.pl (.lst [.bl false, .bl false, .bl true]), .pl (.lst [.bl false, .bl false, .bl true, .bl false, .bl false, .bl false]), .pl (.lst [.bl false, .bl false, .bl true, .bl false, .bl false, .bl false, .bl false, .bl false, .bl false])]).set (h.length + 2) (.pl (.lst bs)) = h ++ g := by rw [List.set_append_right _ _ (by omega), ← hg]; simp
  have q5 : (h ++ g)[h.length + 2]? = some (.pl (.lst bs)) := by rw [List.getElem?_append_right (by omega), ← hg]; simp
  have lcg := lc (h ++ g)
  have t1 : toD 8 (h ++ g) (.ref (h.length + 2)) = some (.list [.bool false, .bool false, .bool true, .bool false, .bool false, .bool false, .bool false, .bool false, .bool false, .bool false]) := td_rowR (xs := bs) (by simp [lstAt, q5]) (by rw [← hbs]; rfl)
  have t2 : toD 8 (h ++ g) (.rl bs) = some (.list [.bool false, .bool false, .bool true, .bool false, .bool false, .bool false, .bool false, .bool false, .bool false, .bool false]) := td_rowR (xs := bs) rfl (by rw [← hbs]; rfl)
  have eq : PyData.eqv (.list [.bool false, .bool false, .bool true, .bool false, .bool false, .bool false, .bool false, .bool false, .bool false, .bool false]) (.list [.bool false, .bool false, .bool true, .bool false, .bool false, .bool false, .bool false, .bool false, .bool false, .bool false]) = true := by decide +kernel
  have ebs : [W.bl false, .bl false, .bl true, .bl false, .bl false, .bl false, .bl false, .bl false, .bl false] ++ [W.bl false] = bs := by rw [← hbs]; rfl
  generalize h ++ g = HG at *
  simp [z3, z6, z9, z9', q1, q2, q3, ebs, q4, lcg, t1, t2, eq]
theorem refused_13 (w1 w2 : W) (h h1 : VH) (hl : fLcall1 arOf fbOf 0 1 [some w1, some w2, some (.int 2), none, none, none] h = some (.ex 13, h1)) : ∃ g, B__law_refused [w1, w2, .int 2] h = some (.ok (.bl true), h1 ++ g) := by
  obtain ⟨fm, g, e⟩ := suite_13 w1 w2 h1
  have hc : catE 13 = some true := by decide
  refine ⟨g, ?_⟩
  unfold B__law_refused
  rw [F_ref_eq]
  generalize fLcall1 arOf fbOf 0 1 = fl at hl ⊢
  generalize U_ref = U at e ⊢
  simp [runB, startV, hl, hc, e]
theorem suite_15 (w1 w2 : W) (h : VH) : ∃ fm g, U_ref 15 [some w1, some w2, some (.int 4), none, none, none] h = some (.rt (.bl true), fm, h ++ g) := by
  have z3 : 3 ≤ sizeLine := by decide
  have z6 : 6 ≤ sizeLine := by decide
  have z9 : 9 ≤ sizeLine := by decide
  have z9' : 9 < sizeLine := by decide
  generalize hbs : [W.bl false, .bl false, .bl false, .bl false, .bl true, .bl false, .bl false, .bl false, .bl false, .bl false] = bs
  generalize hg : [Cell.pl (.lst [.bl false, .bl false, .bl false]), .pl (.lst [.bl false, .bl false, .bl false, .bl false, .bl true, .bl false]), .pl (.lst bs)] = g
  have lc : ∀ H : VH, fLcR (fIr1 (fC (.int 10))) 5 [5] fYes (fBin gEq (fVar 5) (fVar 2)) [some w1, some w2, some (.int 4), none, some (.ref (h.length + 2)), none] H = some (.ok (.rl bs), H) := fun H => by
    have := fLcR_run (ft := fYes) (fi := fIr1 (fC (.int 10))) (src := .rng 0 10) (i0 := 5) (vs := [5]) (fe := fBin gEq (fVar 5) (fVar 2)) (fm := [some w1, some w2, some (.int 4), none, some (.ref (h.length + 2)), none]) (h := H) (fun i : Nat => W.int (0 + (i : Nat))) (fun _ => true) (fun i : Nat => W.bl (decide ((0 + (i : Nat) : Int) = 4))) (List.range 10) (by simp) (by decide) rfl (fun j => rng_nxr 0 10 j H) (fun a _ => rfl) (fun a _ _ => by simp [wipeV, tdI, eqIr])
    rw [this, ← hbs]
    rfl
  refine ⟨[some w1, some w2, some (.int 4), none, some (.ref (h.length + 2)), none], g, ?_⟩
  unfold U_ref
  generalize fLcR (fIr1 (fC (.int 10))) 5 [5] fYes (fBin gEq (fVar 5) (fVar 2)) = fl at *
  have q1 : (h ++ [Cell.pl (.lst [.bl false, .bl false, .bl false])])[h.length]? = some (.pl (.lst [.bl false, .bl false, .bl false])) := by simp
  have q2 : (h ++ [Cell.pl (.lst [.bl false, .bl false, .bl false]), .pl (.lst [.bl false, .bl false, .bl false, .bl false, .bl true, .bl false])])[h.length + 1]? = some (.pl (.lst [.bl false, .bl false, .bl false, .bl false, .bl true, .bl false])) := by rw [List.getElem?_append_right (by omega)]; simp
  have q3 : (h ++ [Cell.pl (.lst [.bl false, .bl false, .bl false]), .pl (.lst [.bl false, .bl false, .bl false, .bl false, .bl true, .bl false]), .pl (.lst [.bl false, .bl false, .bl false, .bl false, .bl true, .bl false, .bl false, .bl false, .bl false])])[h.length + 2]? = some (.pl (.lst [.bl false, .bl false, .bl false, .bl false, .bl true, .bl false, .bl false, .bl false, .bl false])) := by rw [List.getElem?_append_right (by omega)]; simp
  have q4 : (h ++ [Cell.pl (.lst [.bl false, .bl false, .bl false]), .pl (.lst [.bl false, .bl false, .bl false, .bl false, .bl true, .bl false]), .pl (.lst [.bl false, .bl false, .bl false, .bl false, .bl true, .bl false, .bl false, .bl false, .bl false])]).set (h.length + 2) (.pl (.lst bs)) = h ++ g := by rw [List.set_append_right _ _ (by omega), ← hg]; simp
  have q5 : (h ++ g)[h.length + 2]? = some (.pl (.lst bs)) := by rw [List.getElem?_append_right (by omega), ← hg]; simp
  have lcg := lc (h ++ g)
  have t1 : toD 8 (h ++ g) (.ref (h.length + 2)) = some (.list [.bool false, .bool false, .bool false, .bool false, .bool true, .bool false, .bool false, .bool false, .bool false, .bool false]) := td_rowR (xs := bs) (by simp [lstAt, q5]) (by rw [← hbs]; rfl)
  have t2 : toD 8 (h ++ g) (.rl bs) = some (.list [.bool false, .bool false, .bool false, .bool false, .bool true, .bool false, .bool false, .bool false, .bool false, .bool false]) := td_rowR (xs := bs) rfl (by rw [← hbs]; rfl)
  have eq : PyData.eqv (.list [.bool false, .bool false, .bool false, .bool false, .bool true, .bool false, .bool false, .bool false, .bool false, .bool false]) (.list [.bool false, .bool false, .bool false, .bool false, .bool true, .bool false, .bool false, .bool false, .bool false, .bool false]) = true := by decide +kernel
  have ebs : [W.bl false, .bl false, .bl false, .bl false, .bl true, .bl false, .bl false, .bl false, .bl false] ++ [W.bl false] = bs := by rw [← hbs]; rfl
  generalize h ++ g = HG at *
  simp [z3, z6, z9, z9', q1, q2, q3, ebs, q4, lcg, t1, t2, eq]
theorem refused_15 (w1 w2 : W) (h h1 : VH) (hl : fLcall1 arOf fbOf 0 1 [some w1, some w2, some (.int 4), none, none, none] h = some (.ex 15, h1)) : ∃ g, B__law_refused [w1, w2, .int 4] h = some (.ok (.bl true), h1 ++ g) := by
  obtain ⟨fm, g, e⟩ := suite_15 w1 w2 h1
  have hc : catE 15 = some true := by decide
  refine ⟨g, ?_⟩
  unfold B__law_refused
  rw [F_ref_eq]
  generalize fLcall1 arOf fbOf 0 1 = fl at hl ⊢
  generalize U_ref = U at e ⊢
  simp [runB, startV, hl, hc, e]
theorem suite_16 (w1 w2 : W) (h : VH) : ∃ fm g, U_ref 16 [some w1, some w2, some (.int 5), none, none, none] h = some (.rt (.bl true), fm, h ++ g) := by
  have z3 : 3 ≤ sizeLine := by decide
  have z6 : 6 ≤ sizeLine := by decide
  have z9 : 9 ≤ sizeLine := by decide
  have z9' : 9 < sizeLine := by decide
  generalize hbs : [W.bl false, .bl false, .bl false, .bl false, .bl false, .bl true, .bl false, .bl false, .bl false, .bl false] = bs
  generalize hg : [Cell.pl (.lst [.bl false, .bl false, .bl false]), .pl (.lst [.bl false, .bl false, .bl false, .bl false, .bl false, .bl true]), .pl (.lst bs)] = g
  have lc : ∀ H : VH, fLcR (fIr1 (fC (.int 10))) 5 [5] fYes (fBin gEq (fVar 5) (fVar 2)) [some w1, some w2, some (.int 5), none, some (.ref (h.length + 2)), none] H = some (.ok (.rl bs), H) := fun H => by
    have := fLcR_run (ft := fYes) (fi := fIr1 (fC (.int 10))) (src := .rng 0 10) (i0 := 5) (vs := [5]) (fe := fBin gEq (fVar 5) (fVar 2)) (fm := [some w1, some w2, some (.int 5), none, some (.ref (h.length + 2)), none]) (h := H) (fun i : Nat => W.int (0 + (i : Nat))) (fun _ => true) (fun i : Nat => W.bl (decide ((0 + (i : Nat) : Int) = 5))) (List.range 10) (by simp) (by decide) rfl (fun j => rng_nxr 0 10 j H) (fun a _ => rfl) (fun a _ _ => by simp [wipeV, tdI, eqIr])
    rw [this, ← hbs]
    rfl
  refine ⟨[some w1, some w2, some (.int 5), none, some (.ref (h.length + 2)), none], g, ?_⟩
  unfold U_ref
  generalize fLcR (fIr1 (fC (.int 10))) 5 [5] fYes (fBin gEq (fVar 5) (fVar 2)) = fl at *
  have q1 : (h ++ [Cell.pl (.lst [.bl false, .bl false, .bl false])])[h.length]? = some (.pl (.lst [.bl false, .bl false, .bl false])) := by simp
  have q2 : (h ++ [Cell.pl (.lst [.bl false, .bl false, .bl false]), .pl (.lst [.bl false, .bl false, .bl false, .bl false, .bl false, .bl true])])[h.length + 1]? = some (.pl (.lst [.bl false, .bl false, .bl false, .bl false, .bl false, .bl true])) := by rw [List.getElem?_append_right (by omega)]; simp
  have q3 : (h ++ [Cell.pl (.lst [.bl false, .bl false, .bl false]), .pl (.lst [.bl false, .bl false, .bl false, .bl false, .bl false, .bl true]), .pl (.lst [.bl false, .bl false, .bl false, .bl false, .bl false, .bl true, .bl false, .bl false, .bl false])])[h.length + 2]? = some (.pl (.lst [.bl false, .bl false, .bl false, .bl false, .bl false, .bl true, .bl false, .bl false, .bl false])) := by rw [List.getElem?_append_right (by omega)]; simp
  have q4 : (h ++ [Cell.pl (.lst [.bl false, .bl false, .bl false]), .pl (.lst [.bl false, .bl false, .bl false, .bl false, .bl false, .bl true]), .pl (.lst [.bl false, .bl false, .bl false, .bl false, .bl false, .bl true, .bl false, .bl false, .bl false])]).set (h.length + 2) (.pl (.lst bs)) = h ++ g := by rw [List.set_append_right _ _ (by omega), ← hg]; simp
  have q5 : (h ++ g)[h.length + 2]? = some (.pl (.lst bs)) := by rw [List.getElem?_append_right (by omega), ← hg]; simp
  have lcg := lc (h ++ g)
  have t1 : toD 8 (h ++ g) (.ref (h.length + 2)) = some (.list [.bool false, .bool false, .bool false, .bool false, .bool false, .bool true, .bool false, .bool false, .bool false, .bool false]) := td_rowR (xs := bs) (by simp [lstAt, q5]) (by rw [← hbs]; rfl)
  have t2 : toD 8 (h ++ g) (.rl bs) = some (.list [.bool false, .bool false, .bool false, .bool false, .bool false, .bool true, .bool false, .bool false, .bool false, .bool false]) := td_rowR (xs := bs) rfl (by rw [← hbs]; rfl)
  have eq : PyData.eqv (.list [.bool false, .bool false, .bool false, .bool false, .bool false, .bool true, .bool false, .bool false, .bool false, .bool false]) (.list [.bool false, .bool false, .bool false, .bool false, .bool false, .bool true, .bool false, .bool false, .bool false, .bool false]) = true := by decide +kernel
  have ebs : [W.bl false, .bl false, .bl false, .bl false, .bl false, .bl true, .bl false, .bl false, .bl false] ++ [W.bl false] = bs := by rw [← hbs]; rfl
  generalize h ++ g = HG at *
  simp [z3, z6, z9, z9', q1, q2, q3, ebs, q4, lcg, t1, t2, eq]
theorem refused_16 (w1 w2 : W) (h h1 : VH) (hl : fLcall1 arOf fbOf 0 1 [some w1, some w2, some (.int 5), none, none, none] h = some (.ex 16, h1)) : ∃ g, B__law_refused [w1, w2, .int 5] h = some (.ok (.bl true), h1 ++ g) := by
  obtain ⟨fm, g, e⟩ := suite_16 w1 w2 h1
  have hc : catE 16 = some true := by decide
  refine ⟨g, ?_⟩
  unfold B__law_refused
  rw [F_ref_eq]
  generalize fLcall1 arOf fbOf 0 1 = fl at hl ⊢
  generalize U_ref = U at e ⊢
  simp [runB, startV, hl, hc, e]
end Pr

namespace Pr
open PySem PySem.Spec PyProof.Rows L2 Tw
theorem decAll_enc : ∀ {xs : List W} {ds : List Deed}, mapO decD xs = some ds → xs = encS ds
  | [], ds, e => by cases e; rfl
  | x :: xs, ds, e => by
    unfold mapO at e
    split at e
    · cases e
    · rename_i d e1
      split at e
      · cases e
      · rename_i ds' e2
        cases e
        rw [decD_enc e1, decAll_enc e2]
        rfl
theorem noRB_enc (d : Deed) : noRB d.enc = true := by cases d <;> rfl
theorem noRsB_encS : ∀ ds : List Deed, noRsB (encS ds) = true
  | [] => rfl
  | d :: ds => by
    show (noRB d.enc && noRsB (encS ds)) = true
    rw [noRB_enc, noRsB_encS ds]
    rfl
def storyOk (m w l : Int) : Bool := match B_story_of [.int m, .int w, .int l] [] with
  | some (.ok (.rl xs), _) => (match mapO decD xs with
    | some ds => fooled m w l ds && decide (ds.length ≤ 190)
    | none => false)
  | _ => false
theorem story_at {m w l : Int} (h : storyOk m w l = true) : ∃ ds, (∀ v, A_story_of [.int m, .int w, .int l] v = some (.ok (.rl (encS ds)), v)) ∧ fooled m w l ds = true ∧ ds.length ≤ 190 := by
  unfold storyOk at h
  split at h
  · rename_i xs g e
    split at h
    · rename_i ds e2
      rw [Bool.and_eq_true, decide_eq_true_eq] at h
      have := decAll_enc e2
      subst this
      refine ⟨ds, fun v => ?_, h.1, h.2⟩
      have hn : noRsB [.int m, .int w, .int l] = true := rfl
      have hr : noRB (.rl (encS ds)) = true := by simpa [noRB] using noRsB_encS ds
      simp [A_story_of, aloneF, hn, e, hr]
    · cases h
  · cases h
theorem judged_sure (m w l : Int) (h : VH) (hb : (1 ≤ m ∧ m ≤ 16) ∧ (1 ≤ w ∧ w ≤ 3) ∧ (1 ≤ l ∧ l ≤ 4)) (hm : 2 * w + l ≤ m) : B_judged [.int m, .int w, .int l] h = some (.ok (.ref h.length), h ++ [.pl (.ins 3 [])]) := by
  have o2 : mulOk 2 w = true := mul_l (by decide) (by decide)
  simp [B_judged, F_judged, runB, startV, bounds_run m w l h hb.1 hb.2.1 hb.2.2, o2, hm]
theorem judged_fool (m w l : Int) (h : VH) (hb : (1 ≤ m ∧ m ≤ 16) ∧ (1 ≤ w ∧ w ≤ 3) ∧ (1 ≤ l ∧ l ≤ 4)) (hm : m < 2 * w + l) (ds : List Deed) (hs : ∀ v, A_story_of [.int m, .int w, .int l] v = some (.ok (.rl (encS ds)), v)) :
    B_judged [.int m, .int w, .int l] h = some (.ok (.ref h.length), h ++ [.pl (.ins 4 [.ref (h.length + 1)]), .pl (.lst (encS ds))]) := by
  have o2 : mulOk 2 w = true := mul_l (by decide) (by decide)
  have hm' : ¬ 2 * w + l ≤ m := by omega
  have hi : B_Fooled_init [.ref h.length, .rl (encS ds)] (h ++ [.pl (.ins 4 [])]) = some (.ok .non, h ++ [.pl (.ins 4 [.ref (h.length + 1)]), .pl (.lst (encS ds))]) := by
    simp [B_Fooled_init, F_Fooled_init, runB, startV]
  simp [B_judged, F_judged, runB, startV, bounds_run m w l h hb.1 hb.2.1 hb.2.2, o2, hm', hs, hi]

theorem great_run (f : Int) (f0 : 0 ≤ f) (f1 : f < 1000000000) (h : VH) : ∃ g : Int, B__law_great [.int f] h = some (.ok (.int g), h) ∧ 1000 < g := by
  have key : ∃ r h', B__law_great [.int f] h = some (r, h') ∧ ∃ g : Int, r = .ok (.int g) ∧ h' = h ∧ 1000 < g := by
    refine Run.fn rfl ?_
    unfold F__law_great
    have p64 : (10 : Int) ^ 64 = 10000000000000000000000000000000000000000000000000000000000000000 := by decide
    generalize hx : (10000000000000000000000000000000000000000000000000000000000000000 : Int) + f = x0
    have x0a : 1000 < x0 := by omega
    have x0b : x0.natAbs < 2 ^ (213 * 2 ^ 0) := by
      have : (2 : Nat) ^ (213 * 2 ^ 0) = 13164036458569648337239753460458804039861886925068638906788872192 := by decide
      omega
    refine Run.nx (fm1 := [some (.int f), some (.int x0), none]) (h1 := h) (by simp [startV, p64, hx]) ?_
    refine Run.seq ?_
    refine Run.rng (lo := 0) (n := 7) (h1 := h) (fun i fm' h' => h' = h ∧ fm'.length = 3 ∧ ∃ x : Int, fm'[1]? = some (some (.int x)) ∧ 1000 < x ∧ x.natAbs < 2 ^ (213 * 2 ^ i)) (by simp) ⟨rfl, rfl, x0, rfl, x0a, x0b⟩ ?_ ?_
    · rintro i fm' h' hi ⟨rfl, hl, x, ex, xa, xb⟩
      have hp : 2 ^ i ≤ 64 := by
        have : (2 : Nat) ^ i ≤ 2 ^ 6 := Nat.pow_le_pow_right (by decide) (by omega)
        simpa using this
      have mo : mulOk x x = true := mul_b xb xb (by omega)
      refine ⟨fm'.set 2 (some (.int (0 + (i : Nat)))), rfl, ?_⟩
      have e1 : (fm'.set 2 (some (.int (0 + (i : Nat)))))[1]? = some (some (.int x)) := by rw [List.getElem?_set_ne (by decide)]; exact ex
      refine ⟨.nx, (fm'.set 2 (some (.int (0 + (i : Nat))))).set 1 (some (.int (x * x))), h', ?_, rfl, by simp [hl], x * x, by simp [hl], ?_, ?_⟩
      · generalize fm'.set 2 (some (.int (0 + (i : Nat)))) = fm2 at *
        simp [e1, mo]
      · have : x * 1 ≤ x * x := Int.mul_le_mul_of_nonneg_left (by omega) (by omega)
        omega
      · rw [Int.natAbs_mul]
        have e2 : 213 * 2 ^ (i + 1) = 213 * 2 ^ i + 213 * 2 ^ i := by rw [Nat.pow_succ]; omega
        rw [e2, Nat.pow_add]
        exact Nat.mul_lt_mul_of_lt_of_le xb (Nat.le_of_lt xb) (Nat.pos_of_ne_zero (by simp))
    · rintro fm' h' ⟨rfl, hl, x, ex, xa, xb⟩
      exact ⟨.rt (.int x), fm', h', by simp [ex], x, rfl, rfl, xa⟩
  obtain ⟨r, h', e, g, rfl, rfl, hg⟩ := key
  exact ⟨g, e, hg⟩
theorem bad_marks (m w l : Int) (h : VH) (h1 : 16 < m) : B_asked_bounds [.int m, .int w, .int l] h = some (.ex 11, h) := by
  have n1 : ¬ m ≤ 16 := by omega
  have n2 : 1 ≤ m := by omega
  simp [B_asked_bounds, F_asked_bounds, runB, startV, whole_int, n1, n2]
theorem bad_window (m w l : Int) (h : VH) (h0 : 1 ≤ m ∧ m ≤ 16) (h1 : 3 < w) : B_asked_bounds [.int m, .int w, .int l] h = some (.ex 12, h) := by
  have n1 : ¬ w ≤ 3 := by omega
  have n2 : 1 ≤ w := by omega
  simp [B_asked_bounds, F_asked_bounds, runB, startV, whole_int, h0, n1, n2]
theorem bad_life (m w l : Int) (h : VH) (h0 : 1 ≤ m ∧ m ≤ 16) (h1 : 1 ≤ w ∧ w ≤ 3) (h2 : 4 < l) : B_asked_bounds [.int m, .int w, .int l] h = some (.ex 13, h) := by
  have n1 : ¬ l ≤ 4 := by omega
  have n2 : 1 ≤ l := by omega
  simp [B_asked_bounds, F_asked_bounds, runB, startV, whole_int, h0, h1, n1, n2]
theorem fb0_run (w : W) (g : Int) (hg : 1000 < g) (h : VH) : fb_0 [some w, some (.int g)] h = some (.ex 11, h) := by
  have b := bad_marks g 2 3 h (by omega)
  simp [fb_0, B_judged, F_judged, runB, startV, b]
theorem fb1_run (w : W) (g : Int) (hg : 1000 < g) (h : VH) : fb_1 [some w, some (.int g)] h = some (.ex 12, h) := by
  have b := bad_window 8 g 3 h (by decide) (by omega)
  simp [fb_1, B_judged, F_judged, runB, startV, b]
theorem fb2_run (w : W) (g : Int) (hg : 1000 < g) (h : VH) : fb_2 [some w, some (.int g)] h = some (.ex 13, h ++ [.pl (.ins 0 [])]) := by
  have b := bad_life 8 2 g (h ++ [.pl (.ins 0 [])]) (by decide) (by decide) (by omega)
  simp [fb_2, B_Talk_init, F_Talk_init, runB, startV, b]
section
variable (h : VH) (t : Nat) (T : Tk) (gT : T.Good Lim) (hT : h[t]? = some (.tk T)) (g : Int) (hg : 1000 < g) (hk : T.known = 0) (hs : T.said = [])
include gT hT hg hk hs
theorem fb3_run : fb_3 [some (.ref t), some (.int g)] h = some (.ex 15, h) := by
  have a := tPost T gT h t hT g 0
  have e : T.post g 0 = (.ex 15, T) := by
    unfold Tk.post
    rw [if_neg (by unfold okP; omega)]
  rw [e, set_same hT] at a
  simp [fb_3, hT, a]
theorem fb4_run : fb_4 [some (.ref t), some (.int g)] h = some (.ex 16, h) := by
  have a := tPost T gT h t hT 0 g
  have e : T.post 0 g = (.ex 16, T) := by
    unfold Tk.post
    rw [if_pos (by unfold okP; omega), if_neg (by rw [hk, hs]; simp <;> omega)]
  rw [e, set_same hT] at a
  simp [fb_4, hT, a]
theorem fb5_run : fb_5 [some (.ref t), some (.int g)] h = some (.ex 15, h) := by
  have a := tAnswer T gT h t hT g
  have e : T.answer g = (.ex 15, T) := by
    unfold Tk.answer
    rw [if_neg (by unfold okP; omega)]
  rw [e, set_same hT] at a
  simp [fb_5, hT, a]
end
end Pr

namespace Pr
open PySem PySem.Spec PyProof.Rows L2 Tw
noncomputable section
def L_law_1 : FSt := (fSeq (fSet 4 (fCall B_told [(fC (.int 8)), (fC (.int 2)), (fC (.int 3)), (fLstR [(fTup [(fC (.str "tick"))]), (fVar 3)])])) (fIfS (fOrT (fNotT (fB (fIsc (subOf 2) (fVar 4)))) (fOrT (fB (fBin gNe (fFld 2 0 (fVar 4)) (fC (.int 1)))) (fB (fBin gNotB (fAlt (fMeth 1 T_Done_shows (fVar 4) [(fC (.int 8)), (fC (.int 2)), (fC (.int 3)), (fLstR [(fTup [(fC (.str "tick"))]), (fVar 3)])]) (fMeth 2 T_Halt_shows (fVar 4) [(fC (.int 8)), (fC (.int 2)), (fC (.int 3)), (fLstR [(fTup [(fC (.str "tick"))]), (fVar 3)])])) (fC (.bl true)))))) (fRet (fC (.bl false))) fNil))
end
theorem F_law_eq : F_law = (fSeq (fSet 1 (fCB gAbs [(fCB gSum [(fSl gSlR (fVar 0) fNo (fPart (fC (.int 63))))])])) (fSeq (fSet 2 (fCall B__law_great [(fBin gMod (fVar 1) (fBin gPow (fC (.int 10)) (fC (.int 9))))])) (fSeq (fIfS (fB (fBin gNotB (fAlt (fMeth 1 T_Done_shows (fMake 2 B_Halt_init [(fVar 2)]) [(fC (.int 8)), (fC (.int 2)), (fC (.int 3)), (fLstR [(fTup [(fC (.str "rise")), (fC (.int 0))])])]) (fMeth 2 T_Halt_shows (fMake 2 B_Halt_init [(fVar 2)]) [(fC (.int 8)), (fC (.int 2)), (fC (.int 3)), (fLstR [(fTup [(fC (.str "rise")), (fC (.int 0))])])])) (fC (.bl false)))) (fRet (fC (.bl false))) fNil) (fSeq (fIfS (fB (fBin gNotB (fAlt (fMeth 1 T_Done_shows (fMake 2 B_Halt_init [(fUn gNeg (fVar 2))]) [(fC (.int 8)), (fC (.int 2)), (fC (.int 3)), (fLstR [(fTup [(fC (.str "tick"))])])]) (fMeth 2 T_Halt_shows (fMake 2 B_Halt_init [(fUn gNeg (fVar 2))]) [(fC (.int 8)), (fC (.int 2)), (fC (.int 3)), (fLstR [(fTup [(fC (.str "tick"))])])])) (fC (.bl false)))) (fRet (fC (.bl false))) fNil) (fSeq (fIfS (fOrT (fB (fBin gNotB (fAlt (fMeth 1 T_Done_shows (fMake 1 B_Done_init [(fLstR [(fVar 2)])]) [(fC (.int 8)), (fC (.int 2)), (fC (.int 3)), (fLstR [(fTup [(fC (.str "tick"))])])]) (fMeth 2 T_Halt_shows (fMake 1 B_Done_init [(fLstR [(fVar 2)])]) [(fC (.int 8)), (fC (.int 2)), (fC (.int 3)), (fLstR [(fTup [(fC (.str "tick"))])])])) (fC (.bl false)))) (fNotT (fB (fIsc (subOf 3) (fCall B_judged [(fC (.int 8)), (fC (.int 2)), (fC (.int 3))]))))) (fRet (fC (.bl false))) fNil) (fSeq (fFor (fIl (fLstR [(fTup [(fC (.str "post")), (fVar 2), (fC (.int 0))]), (fTup [(fC (.str "post")), (fC (.int 0)), (fVar 2)]), (fTup [(fC (.str "answer")), (fVar 2)]), (fTup [(fC (.str "bring")), (fC (.int 0)), (fVar 2)]), (fTup [(fC (.str "fall")), (fUn gNeg (fVar 2))])])) (gtName 3) L_law_1) (fSeq (fIfS (fOrT (fNotT (fB (fIsc (subOf 1) (fCall B_told [(fC (.int 8)), (fC (.int 2)), (fC (.int 3)), (fLstR [(fTup [(fC (.str "tick"))])])])))) (fNotT (fB (fIsc (subOf 4) (fCall B_judged [(fC (.int 2)), (fC (.int 2)), (fC (.int 3))]))))) (fRet (fC (.bl false))) fNil) (fSeq (fSet 5 (fMake 0 S_Talk_init [(fC (.int 8)), (fC (.int 2)), (fC (.int 3))])) (fSeq (fSet 6 (fLstR [(fLamM 0 40 (lamQ "law") 0 none), (fLamM 0 40 (lamQ "law") 1 none)])) (fSeq (fSet 6 (fBin gAddR (fVar 6) (fLstR [(fLamM 0 40 (lamQ "law") 2 none), (fLamM 0 40 (lamQ "law") 3 (some 5))]))) (fSeq (fSet 6 (fBin gAddR (fVar 6) (fLstR [(fLamM 0 40 (lamQ "law") 4 (some 5)), (fLamM 0 40 (lamQ "law") 5 (some 5))]))) (fRet (fCB gAll [(fLcTB capsOf 5 (fIz [(fVar 6), (fLstR [(fC (.int 0)), (fC (.int 1)), (fC (.int 2)), (fC (.int 4)), (fC (.int 5)), (fC (.int 4))])]) (gtTup (gtCons 7 (gtCons 8 gtNil))) [7, 8] fYes (fCall B__law_refused [(fVar 7), (fVar 2), (fVar 8)]))]))))))))))))) := rfl
abbrev tbs : List Cell := [.tb 40 (lamQ "law")]
abbrev tb0 : Cell := .tb 40 (lamQ "law")
theorem sl_any {h : VH} {s : W} {xs : List W} (e : lstAt h s = some xs) (l u : Option Int) : gSlR s l u h = some (.rl (cutW xs l u), h) := by
  cases s with
  | ref n => simp only [gSlR, e]
  | rl ys =>
    have : ys = xs := by simpa [lstAt] using e
    subst this
    rfl
  | _ => simp [lstAt] at e
theorem rise_say (g : Int) (hg : 1000 < g) : toldSay (.inr g) 8 2 3 [.rise 0] = false := by
  have : play (Tk.fresh 8 2 3) [.rise 0] 0 = ((play (Tk.fresh 8 2 3) [.rise 0] 0).1, some 0) := rfl
  unfold toldSay
  rw [this]
  simp
  omega
theorem tick_say (g : Int) : toldSay (.inr g) 8 2 3 [.tick] = false := by
  have : play (Tk.fresh 8 2 3) [.tick] 0 = ((play (Tk.fresh 8 2 3) [.tick] 0).1, none) := rfl
  unfold toldSay
  rw [this]
theorem tick_sayD (g : Int) : toldSay (.inl [g]) 8 2 3 [.tick] = false := by
  have : play (Tk.fresh 8 2 3) [.tick] 0 = ((play (Tk.fresh 8 2 3) [.tick] 0).1, none) := rfl
  unfold toldSay
  rw [this]
  have e : (play (Tk.fresh 8 2 3) [.tick] 0).1.heard = [] := rfl
  simp [e]
theorem mk_halt {fm : Fm} {h : VH} {f : FE} {g : Int} (e : f fm h = some (.ok (.int g), h)) : fMake 2 B_Halt_init [f] fm h = some (.ok (.ref h.length), h ++ [.pl (.ins 2 [.int g])]) := by
  simp [e, B_Halt_init, F_Halt_init, runB, startV]
theorem mk_done {fm : Fm} {h : VH} {f : FE} {g : Int} (e : f fm h = some (.ok (.int g), h)) : fMake 1 B_Done_init [fLstR [f]] fm h = some (.ok (.ref h.length), h ++ [.pl (.ins 1 [.ref (h.length + 1)]), .pl (.lst [.int g])]) := by
  have z1 : 1 ≤ sizeLine := by decide
  simp [e, B_Done_init, F_Done_init, runB, startV, z1]
def dN (g : Int) : List Deed := [.post g 0, .post 0 g, .answer g, .bring 0 g, .fall (-g)]
theorem play_no (g : Int) (hg : 1000 < g) (d : Deed) (hd : d ∈ dN g) : ∃ T, play (Tk.fresh 8 2 3) [.tick, d] 0 = (T, some 1) := by
  have o1 : ¬ okP g := by unfold okP; omega
  have o2 : ¬ okP (-g) := by unfold okP; omega
  have o3 : okP 0 := .inl rfl
  have k1 : ¬ g < 0 := by omega
  simp only [dN, List.mem_cons, List.not_mem_nil, or_false] at hd
  rcases hd with rfl | rfl | rfl | rfl | rfl
  · exact ⟨_, by simp [play, Tk.act, Tk.post, Tk.tick, Tk.fresh, o1]; try rfl⟩
  · exact ⟨_, by simp [play, Tk.act, Tk.post, Tk.tick, Tk.fresh, o3, k1]; try rfl⟩
  · exact ⟨_, by simp [play, Tk.act, Tk.answer, Tk.tick, Tk.fresh, o1]; try rfl⟩
  · exact ⟨_, by simp [play, Tk.act, Tk.bring, Tk.tick, Tk.fresh, Tk.rd, Tk.atP, Tk.old, o3, k1]; try rfl⟩
  · exact ⟨_, by simp [play, Tk.act, Tk.fall, Tk.tick, Tk.fresh, o2]; try rfl⟩
end Pr

namespace Pr
open PySem PySem.Spec PyProof.Rows L2 Tw
theorem notB_F {X : FE} {fm : Fm} {h h1 : VH} {b : Bool} (e : X fm h = some (.ok (.bl b), h1)) : fB (fBin gNotB X (fC (.bl b))) fm h = some (.ok false, h1) := by simp [e]
theorem orT_F {f g : FT} {fm : Fm} {h h1 h2 : VH} (e : f fm h = some (.ok false, h1)) (e2 : g fm h1 = some (.ok false, h2)) : fOrT f g fm h = some (.ok false, h2) := by simp [e, e2]
theorem ifS_F {f : FT} {g : FSt} {fm : Fm} {h h1 : VH} (e : f fm h = some (.ok false, h1)) : fIfS f g fNil fm h = some (.nx, fm, h1) := by simp [e]
theorem isc_F {X : FE} {fm : Fm} {h h1 : VH} {n c : Nat} (e : X fm h = some (.ok (.ref n), h1)) (hc : clsAt h1 n = some c) (hs : subOf c c = some true) : fNotT (fB (fIsc (subOf c) X)) fm h = some (.ok false, h1) := by simp [-clsAt, e, hc, hs]
theorem lstAt_forget {h : VH} {s : W} {xs : List W} (e : lstAt h s = some xs) : lstAt (forget h) s = some xs := by
  cases s with
  | ref n =>
    simp only [lstAt, forget, List.getElem?_map] at e ⊢
    cases q : h[n]? with
    | none => rw [q] at e; simp at e
    | some c =>
      rw [q] at e
      cases c with
      | pl o => cases o <;> simp_all
      | _ => simp_all
  | rl ys => simpa [lstAt] using e
  | _ => simp [lstAt] at e
section
variable (g : Int) (hg : 1000 < g)
include hg
theorem loop_run (fm : Fm) (hfm : fm.length = 9) (f2 : fm[2]? = some (some (.int g))) (h : VH) (h0 : h[0]? = some tb0) :
    Run (fFor (fIl (fLstR [(fTup [(fC (.str "post")), (fVar 2), (fC (.int 0))]), (fTup [(fC (.str "post")), (fC (.int 0)), (fVar 2)]), (fTup [(fC (.str "answer")), (fVar 2)]), (fTup [(fC (.str "bring")), (fC (.int 0)), (fVar 2)]), (fTup [(fC (.str "fall")), (fUn gNeg (fVar 2))])])) (gtName 3) L_law_1) fm h fun fl fm' h' => fl = .nx ∧ Kp [3, 4] fm fm' ∧ h'[0]? = some tb0 := by
  have z1 : 1 ≤ sizeLine := by decide
  have z2 : 2 ≤ sizeLine := by decide
  have z3 : 3 ≤ sizeLine := by decide
  have z5 : 5 ≤ sizeLine := by decide
  refine Run.vls (xs := (dN g).map Deed.enc) (h1 := h) (fun j fm' h' => Kp [3, 4] fm fm' ∧ h'[0]? = some tb0) (by simp [f2, z2, z3, z5, dN, Deed.enc]) ⟨Kp.rfl, h0⟩ ?_ ?_
  · rintro j w fm' h' ej ⟨K1, e0⟩
    rw [List.getElem?_map] at ej
    cases qc : (dN g)[j]? with
    | none => rw [qc] at ej; cases ej
    | some d =>
      rw [qc] at ej
      cases ej
      refine ⟨_, rfl, ?_⟩
      have hd := List.mem_of_getElem? qc
      have K2 := K1.set (i := 3) (by decide) (some d.enc)
      have e3 := set_at (fm := fm') (i := 3) (by rw [K1.len, hfm]; decide) (some d.enc)
      generalize fm'.set 3 (some d.enc) = fm2 at *
      obtain ⟨T, hp⟩ := play_no g hg d hd
      have tr := told_run 8 2 3 (by decide) h' [.tick, d] (.rl (encS [.tick, d])) rfl (isi_rl _ _) (by simp)
      have hC : toldC h'.length 8 2 3 [.tick, d] = [.tk T, .pl (.ins 2 [.int 1])] := by unfold toldC; rw [hp]; rfl
      rw [hC] at tr
      have et : encS [.tick, d] = [.tup [.str "tick"], d.enc] := rfl
      rw [et] at tr
      unfold L_law_1
      refine Run.nx (fm1 := fm2.set 4 (some (.ref (h'.length + 1)))) (h1 := h' ++ [.tk T, .pl (.ins 2 [.int 1])]) (by
        generalize d.enc = D at *
        simp [e3, z1, z2, tr]) ?_
      have K3 := K2.set (i := 4) (by decide) (some (.ref (h'.length + 1)))
      have e4 := set_at (fm := fm2) (i := 4) (by rw [K2.len, hfm]; decide) (some (.ref (h'.length + 1)))
      have e3' : (fm2.set 4 (some (.ref (h'.length + 1))))[3]? = some (some d.enc) := (List.getElem?_set_ne (by decide)).trans e3
      generalize fm2.set 4 (some (.ref (h'.length + 1))) = fm3 at *
      have c1 : (h' ++ [.tk T, .pl (.ins 2 [.int 1])])[h'.length + 1]? = some (.pl (.ins 2 [.int 1])) := by rw [List.getElem?_append_right (by omega)]; simp
      have g0 := get_snoc e0 [.tk T, .pl (.ins 2 [.int 1])]
      generalize h' ++ [.tk T, .pl (.ins 2 [.int 1])] = h2 at *
      have sh := shows_run h2 (h'.length + 1) (.rl (encS [.tick, d])) [.tick, d] 8 2 3 rfl (by decide) (by simp) (.inr 1) c1 fm3 h2 (fVar 4) (fC (.int 8)) (fC (.int 2)) (fC (.int 3)) (fLstR [(fTup [(fC (.str "tick"))]), (fVar 3)]) (by simp [e4]) rfl rfl rfl (by
        rw [et]
        generalize d.enc = D at *
        simp [e3', z1, z2])
      have ts : toldSay (.inr 1) 8 2 3 [.tick, d] = true := by unfold toldSay; rw [hp]; rfl
      rw [ts] at sh
      have i1 : fNotT (fB (fIsc (subOf 2) (fVar 4))) fm3 h2 = some (.ok false, h2) := isc_F (n := h'.length + 1) (by simp [e4]) (by simp [clsAt, c1]) (by decide)
      have i2 : fB (fBin gNe (fFld 2 0 (fVar 4)) (fC (.int 1))) fm3 h2 = some (.ok false, h2) := by simp [e4, c1, tdI, eqI']
      exact ⟨.nx, fm3, h2, ifS_F (orT_F i1 (orT_F i2 (notB_F sh))), K3, g0⟩
  · rintro fm' h' ⟨K1, e0⟩
    exact ⟨rfl, K1, e0⟩
theorem lcT_step {src : Sc} {gt : GT} {ft : FT} {fe : FE} {fm fm1 : Fm} {k i : Nat} {acc : List W} {h h2 : VH} {w y : W} (en : src.nx h i = some (some w)) (eg : gt w fm = some fm1) (et : ft fm1 h = some (.ok true, h)) (ee : fe fm1 h = some (.ok y, h2)) (ha : acc.length < sizeLine) : lcT src gt ft fe fm (k + 1) i acc h = lcT src gt ft fe fm k (i + 1) (acc ++ [y]) h2 := by
  rw [lcT, en]
  simp only [eg, et, if_true, ee, ha]
theorem lcall_at {h h1 : VH} {n i : Nat} {w w2 : W} {x : Option W} {r : Rs W} (hn : h[n]? = some (.lm i w)) (ha : arOf i = 1) (e : fbOf i [some w, some w2] h = some (r, h1)) : fLcall1 arOf fbOf 0 1 [some (.ref n), some w2, x, none, none, none] h = some (r, h1) := by
  simp [hn, ha, e]
end
end Pr

namespace Pr
open PySem PySem.Spec PyProof.Rows L2 Tw
theorem last_run (g : Int) (hg : 1000 < g) (fm : Fm) (hfm : fm.length = 9) (f2 : fm[2]? = some (some (.int g))) (H : VH) (f5 : fm[5]? = some (some (.ref H.length))) (f6 : fm[6]? = some (some (.rl [.ref (H.length + 1), .ref (H.length + 2), .ref (H.length + 3), .ref (H.length + 4), .ref (H.length + 5), .ref (H.length + 6)]))) :
    ∃ h', fCB gAll [(fLcTB capsOf 5 (fIz [(fVar 6), (fLstR [(fC (.int 0)), (fC (.int 1)), (fC (.int 2)), (fC (.int 4)), (fC (.int 5)), (fC (.int 4))])]) (gtTup (gtCons 7 (gtCons 8 gtNil))) [7, 8] fYes (fCall B__law_refused [(fVar 7), (fVar 2), (fVar 8)]))] fm
      (H ++ [.tk (Tk.fresh 8 2 3), .lm 0 .non, .lm 1 .non, .lm 2 .non, .lm 3 (.ref H.length), .lm 4 (.ref H.length), .lm 5 (.ref H.length)]) = some (.ok (.bl true), h') := by
  have z6 : 6 ≤ sizeLine := by decide
  have zz : ∀ n, n ≤ 6 → n < sizeLine := fun n hn => Nat.lt_of_le_of_lt hn (by decide)
  generalize hN : H.length = N at *
  generalize hM : (H.map (kpC capsOf (some (.ref N)))) = M
  have lM : M.length = N := by rw [← hM, List.length_map, hN]
  have em : (H ++ [Cell.tk (Tk.fresh 8 2 3), .lm 0 .non, .lm 1 .non, .lm 2 .non, .lm 3 (.ref N), .lm 4 (.ref N), .lm 5 (.ref N)]).map (kpC capsOf (some (.ref N))) = M ++ [Cell.tk (Tk.fresh 8 2 3), .lm 0 .non, .lm 1 .non, .lm 2 .non, .lm 3 (.ref N), .lm 4 (.ref N), .lm 5 (.ref N)] := by
    rw [List.map_append, hM]
    simp [capsOf, sameW]
  have gT : (Tk.fresh 8 2 3).Good Lim := (fresh_good (m := 8) (w := 2) (l := 3) (by decide)).mono (by decide)
  generalize hX : M ++ [Cell.tk (Tk.fresh 8 2 3), .lm 0 .non, .lm 1 .non, .lm 2 .non, .lm 3 (.ref N), .lm 4 (.ref N), .lm 5 (.ref N)] = X0 at em
  have gx : ∀ i c, [Cell.tk (Tk.fresh 8 2 3), .lm 0 .non, .lm 1 .non, .lm 2 .non, .lm 3 (.ref N), .lm 4 (.ref N), .lm 5 (.ref N)][i]? = some c → X0[N + i]? = some c := fun i c e => by
    rw [← hX, List.getElem?_append_right (by omega), lM]
    simpa using e
  have t0 : X0[N]? = some (.tk (Tk.fresh 8 2 3)) := gx 0 _ rfl
  have a0 : X0[N + 1]? = some (.lm 0 .non) := gx 1 _ rfl
  have a1 : X0[N + 2]? = some (.lm 1 .non) := gx 2 _ rfl
  have a2 : X0[N + 3]? = some (.lm 2 .non) := gx 3 _ rfl
  have a3 : X0[N + 4]? = some (.lm 3 (.ref N)) := gx 4 _ rfl
  have a4 : X0[N + 5]? = some (.lm 4 (.ref N)) := gx 5 _ rfl
  have a5 : X0[N + 6]? = some (.lm 5 (.ref N)) := gx 6 _ rfl
  generalize hA : [W.ref (N + 1), .ref (N + 2), .ref (N + 3), .ref (N + 4), .ref (N + 5), .ref (N + 6)] = as at *
  generalize hD : [W.int 0, .int 1, .int 2, .int 4, .int 5, .int 4] = ds
  have hi : ∀ h : VH, fIz [(fVar 6), (fLstR [(fC (.int 0)), (fC (.int 1)), (fC (.int 2)), (fC (.int 4)), (fC (.int 5)), (fC (.int 4))])] fm h = some (.ok (.zp (.rl as) (.rl ds)), h) := fun h => by
    rw [← hD]
    simp [f6, z6]
  have nx : ∀ (i : Nat) (a d : W) (h : VH), as[i]? = some a → ds[i]? = some d → (Sc.zp (.rl as) (.rl ds)).nx h i = some (some (.tup [a, d])) := fun i a d h e1 e2 => by
    simp only [Sc.nx, lstAt, e1, e2]
  have w2 : ∀ (x y : W), (((wipeV fm [7, 8]).set 7 (some x)).set 8 (some y))[2]? = some (some (.int g)) := fun x y => by simp [f2]
  have w7 : ∀ (x y : W), (((wipeV fm [7, 8]).set 7 (some x)).set 8 (some y))[7]? = some (some x) := fun x y => by simp [hfm]
  have w8 : ∀ (x y : W), (((wipeV fm [7, 8]).set 7 (some x)).set 8 (some y))[8]? = some (some y) := fun x y => by simp [hfm]
  have gt2 : ∀ (x y : W) (f : Fm), gtTup (gtCons 7 (gtCons 8 gtNil)) (.tup [x, y]) f = some ((f.set 7 (some x)).set 8 (some y)) := fun x y f => rfl
  generalize hwf : wipeV fm [7, 8] = wf at *
  have call : ∀ (x y : W) (h h2 : VH) (b : Bool), B__law_refused [x, .int g, y] h = some (.ok (.bl b), h2) → fCall B__law_refused [(fVar 7), (fVar 2), (fVar 8)] ((wf.set 7 (some x)).set 8 (some y)) h = some (.ok (.bl b), h2) := fun x y h h2 b e => by
    have q2 := w2 x y
    have q7 := w7 x y
    have q8 := w8 x y
    generalize (wf.set 7 (some x)).set 8 (some y) = ff at *
    simp [q2, q7, q8, e]
  obtain ⟨g0, r0⟩ := refused_11 (.ref (N + 1)) (.int g) X0 X0 (lcall_at g hg a0 rfl (fb0_run .non g hg _))
  obtain ⟨g1, r1⟩ := refused_12 (.ref (N + 2)) (.int g) (X0 ++ g0) (X0 ++ g0) (lcall_at g hg (get_snoc a1 _) rfl (fb1_run .non g hg _))
  obtain ⟨g2, r2⟩ := refused_13 (.ref (N + 3)) (.int g) (X0 ++ g0 ++ g1) _ (lcall_at g hg (get_snoc (get_snoc a2 _) _) rfl (fb2_run .non g hg _))
  obtain ⟨g3, r3⟩ := refused_15 (.ref (N + 4)) (.int g) (X0 ++ g0 ++ g1 ++ [.pl (.ins 0 [])] ++ g2) _ (lcall_at g hg (get_snoc (get_snoc (get_snoc (get_snoc a3 _) _) _) _) rfl (fb3_run _ N _ gT (get_snoc (get_snoc (get_snoc (get_snoc t0 _) _) _) _) g hg rfl rfl))
  obtain ⟨g4, r4⟩ := refused_16 (.ref (N + 5)) (.int g) (X0 ++ g0 ++ g1 ++ [.pl (.ins 0 [])] ++ g2 ++ g3) _ (lcall_at g hg (get_snoc (get_snoc (get_snoc (get_snoc (get_snoc a4 _) _) _) _) _) rfl (fb4_run _ N _ gT (get_snoc (get_snoc (get_snoc (get_snoc (get_snoc t0 _) _) _) _) _) g hg rfl rfl))
  obtain ⟨g5, r5⟩ := refused_15 (.ref (N + 6)) (.int g) (X0 ++ g0 ++ g1 ++ [.pl (.ins 0 [])] ++ g2 ++ g3 ++ g4) _ (lcall_at g hg (get_snoc (get_snoc (get_snoc (get_snoc (get_snoc (get_snoc a5 _) _) _) _) _) _) rfl (fb5_run _ N _ gT (get_snoc (get_snoc (get_snoc (get_snoc (get_snoc (get_snoc t0 _) _) _) _) _) _) g hg rfl rfl))
  have e := call _ _ _ _ _ r0
  have lc : ∃ hl, lcT (.zp (.rl as) (.rl ds)) (gtTup (gtCons 7 (gtCons 8 gtNil))) fYes (fCall B__law_refused [(fVar 7), (fVar 2), (fVar 8)]) wf (6 + 1) 0 [] X0 = some ([.bl true, .bl true, .bl true, .bl true, .bl true, .bl true], hl) := by
    refine ⟨X0 ++ g0 ++ g1 ++ [.pl (.ins 0 [])] ++ g2 ++ g3 ++ g4 ++ g5, ?_⟩
    rw [lcT_step g hg (nx 0 _ _ _ (by rw [← hA]; rfl) (by rw [← hD]; rfl)) (gt2 _ _ _) rfl (call _ _ _ _ _ r0) (zz _ (by decide))]
    rw [lcT_step g hg (nx 1 _ _ _ (by rw [← hA]; rfl) (by rw [← hD]; rfl)) (gt2 _ _ _) rfl (call _ _ _ _ _ r1) (zz _ (by decide))]
    rw [lcT_step g hg (nx 2 _ _ _ (by rw [← hA]; rfl) (by rw [← hD]; rfl)) (gt2 _ _ _) rfl (call _ _ _ _ _ r2) (zz _ (by decide))]
    rw [lcT_step g hg (nx 3 _ _ _ (by rw [← hA]; rfl) (by rw [← hD]; rfl)) (gt2 _ _ _) rfl (call _ _ _ _ _ r3) (zz _ (by decide))]
    rw [lcT_step g hg (nx 4 _ _ _ (by rw [← hA]; rfl) (by rw [← hD]; rfl)) (gt2 _ _ _) rfl (call _ _ _ _ _ r4) (zz _ (by decide))]
    rw [lcT_step g hg (nx 5 _ _ _ (by rw [← hA]; rfl) (by rw [← hD]; rfl)) (gt2 _ _ _) rfl (call _ _ _ _ _ r5) (zz _ (by decide))]
    rw [lcT, show (Sc.zp (.rl as) (.rl ds)).nx _ (0 + 1 + 1 + 1 + 1 + 1 + 1) = some none by rw [← hA, ← hD]; rfl]
    rfl
  obtain ⟨hl, lc⟩ := lc
  have hcnt : (Sc.zp (.rl as) (.rl ds)).cnt (H ++ [Cell.tk (Tk.fresh 8 2 3), .lm 0 .non, .lm 1 .non, .lm 2 .non, .lm 3 (.ref N), .lm 4 (.ref N), .lm 5 (.ref N)]) = 6 := by rw [← hA]; rfl
  generalize H ++ [Cell.tk (Tk.fresh 8 2 3), .lm 0 .non, .lm 1 .non, .lm 2 .non, .lm 3 (.ref N), .lm 4 (.ref N), .lm 5 (.ref N)] = H8 at *
  refine ⟨hl, ?_⟩
  have fin : fLcTB capsOf 5 (fIz [(fVar 6), (fLstR [(fC (.int 0)), (fC (.int 1)), (fC (.int 2)), (fC (.int 4)), (fC (.int 5)), (fC (.int 4))])]) (gtTup (gtCons 7 (gtCons 8 gtNil))) [7, 8] fYes (fCall B__law_refused [(fVar 7), (fVar 2), (fVar 8)]) fm H8 = some (.ok (.rl [.bl true, .bl true, .bl true, .bl true, .bl true, .bl true]), hl) := by
    unfold fLcTB
    rw [f5]
    simp only [hi H8, Tw.bindM, hcnt, hwf, em, lc]
  generalize fLcTB capsOf 5 (fIz [(fVar 6), (fLstR [(fC (.int 0)), (fC (.int 1)), (fC (.int 2)), (fC (.int 4)), (fC (.int 5)), (fC (.int 4))])]) (gtTup (gtCons 7 (gtCons 8 gtNil))) [7, 8] fYes (fCall B__law_refused [(fVar 7), (fVar 2), (fVar 8)]) = FF at fin ⊢
  simp [fin, blsW]
end Pr

namespace Pr
open PySem PySem.Spec PyProof.Rows L2 Tw
theorem st_223 : storyOk 2 2 3 = true := by decide +kernel
theorem body_run (ns : List Int) (s : W) (h : VH) (hh : h[0]? = some tb0) (hs : lstAt h s = some (ns.map W.int)) : ∃ h', runB 9 1 F_law [s] h = some (.ok (.bl true), h') := by
  have key : ∃ r h', runB 9 1 F_law [s] h = some (r, h') ∧ r = .ok (.bl true) := by
    refine Run.fn rfl ?_
    rw [F_law_eq]
    have z1 : 1 ≤ sizeLine := by decide
    have z2 : 2 ≤ sizeLine := by decide
    have hc : cutW (ns.map W.int) none (some 63) = (ns.take 63).map W.int := cut_ints ns 63
    generalize hw : (if (ns.take 63).sum < 0 then -(ns.take 63).sum else (ns.take 63).sum) = wh
    have w0 : 0 ≤ wh := by rw [← hw]; split <;> omega
    refine Run.nx (fm1 := [some s, some (.int wh), none, none, none, none, none, none, none]) (h1 := h) (by
      have sl := sl_any hs none (some 63)
      rw [hc] at sl
      simp [-List.map_take, -gSlR, startV, sl, intsW_of, hw]) ?_
    obtain ⟨g, gr, hg⟩ := great_run (wh % 1000000000) (by omega) (by omega) h
    have p9 : (10 : Int) ^ 9 = 1000000000 := by decide
    refine Run.nx (fm1 := [some s, some (.int wh), some (.int g), none, none, none, none, none, none]) (h1 := h) (by simp [p9, gr]) ?_
    generalize hfm : [some s, some (W.int wh), some (W.int g), none, none, none, none, none, none] = fm0
    have f2 : fm0[2]? = some (some (.int g)) := by rw [← hfm]; rfl
    have hl : fm0.length = 9 := by rw [← hfm]; rfl
    clear hfm
    have sh1 := shows_run (h ++ [.pl (.ins 2 [.int g])]) h.length (.rl (encS [.rise 0])) [.rise 0] 8 2 3 rfl (by decide) (by decide) (.inr g) (by simp [AnsT]) fm0 h (fMake 2 B_Halt_init [(fVar 2)]) (fC (.int 8)) (fC (.int 2)) (fC (.int 3)) (fLstR [(fTup [(fC (.str "rise")), (fC (.int 0))])]) (mk_halt (by simp [f2])) rfl rfl rfl (by simp [z1, z2, encS, Deed.enc])
    rw [rise_say g hg] at sh1
    refine Run.nx (ifS_F (notB_F sh1)) ?_
    have h1 := get_snoc hh [.pl (.ins 2 [.int g])]
    generalize h ++ [.pl (.ins 2 [.int g])] = H1 at *
    have sh2 := shows_run (H1 ++ [.pl (.ins 2 [.int (-g)])]) H1.length (.rl (encS [.tick])) [.tick] 8 2 3 rfl (by decide) (by decide) (.inr (-g)) (by simp [AnsT]) fm0 H1 (fMake 2 B_Halt_init [(fUn gNeg (fVar 2))]) (fC (.int 8)) (fC (.int 2)) (fC (.int 3)) (fLstR [(fTup [(fC (.str "tick"))])]) (mk_halt (by simp [f2])) rfl rfl rfl (by simp [z1, encS, Deed.enc])
    rw [tick_say] at sh2
    refine Run.nx (ifS_F (notB_F sh2)) ?_
    have h2 := get_snoc h1 [.pl (.ins 2 [.int (-g)])]
    generalize H1 ++ [.pl (.ins 2 [.int (-g)])] = H2 at *
    have sh3 := shows_run (H2 ++ [.pl (.ins 1 [.ref (H2.length + 1)]), .pl (.lst [.int g])]) H2.length (.rl (encS [.tick])) [.tick] 8 2 3 rfl (by decide) (by decide) (.inl [g]) ⟨.ref (H2.length + 1), by simp, by
      have : (H2 ++ [.pl (.ins 1 [.ref (H2.length + 1)]), .pl (.lst [.int g])])[H2.length + 1]? = some (.pl (.lst [.int g])) := by rw [List.getElem?_append_right (by omega)]; simp
      simp [lstAt, this]⟩ fm0 H2 (fMake 1 B_Done_init [(fLstR [(fVar 2)])]) (fC (.int 8)) (fC (.int 2)) (fC (.int 3)) (fLstR [(fTup [(fC (.str "tick"))])]) (mk_done (by simp [f2])) rfl rfl rfl (by simp [z1, encS, Deed.enc])
    rw [tick_sayD] at sh3
    have h3 := get_snoc h2 [.pl (.ins 1 [.ref (H2.length + 1)]), .pl (.lst [.int g])]
    generalize H2 ++ [.pl (.ins 1 [.ref (H2.length + 1)]), .pl (.lst [.int g])] = H3 at *
    have js := judged_sure 8 2 3 H3 (by decide) (by decide)
    have js' : fCall B_judged [(fC (.int 8)), (fC (.int 2)), (fC (.int 3))] fm0 H3 = some (.ok (.ref H3.length), H3 ++ [.pl (.ins 3 [])]) := by simp [js]
    refine Run.nx (ifS_F (orT_F (notB_F sh3) (isc_F js' (by simp) (by decide)))) ?_
    have h4 := get_snoc h3 [.pl (.ins 3 [])]
    generalize H3 ++ [.pl (.ins 3 [])] = H4 at *
    refine Run.seq ?_
    refine (loop_run g hg fm0 hl f2 H4 h4).mono ?_
    rintro fl fm1 H5 ⟨rfl, K1, h5⟩
    have f2 := (K1.at_ 2 (by decide)).trans f2
    have hl := K1.len.trans hl
    clear K1
    have tr := told_run 8 2 3 (by decide) H5 [.tick] (.rl (encS [.tick])) rfl (isi_rl _ _) (by decide)
    generalize hC : toldC H5.length 8 2 3 [.tick] = C at tr
    have c1 : clsAt (H5 ++ C) (H5.length + 1) = some 1 := by
      have : (H5 ++ C)[H5.length + 1]? = some (.pl (.ins 1 [.ref (H5.length + 2)])) := by rw [List.getElem?_append_right (by omega), ← hC, Nat.add_sub_cancel_left]; rfl
      simp [clsAt, this]
    have tr' : fCall B_told [(fC (.int 8)), (fC (.int 2)), (fC (.int 3)), (fLstR [(fTup [(fC (.str "tick"))])])] fm1 H5 = some (.ok (.ref (H5.length + 1)), H5 ++ C) := by
      have et : encS [.tick] = [.tup [.str "tick"]] := rfl
      rw [et] at tr
      simp [z1, tr]
    have h6 := get_snoc h5 C
    have i1 := isc_F tr' c1 (by decide)
    generalize H5 ++ C = H6 at *
    obtain ⟨ds, hst, hfo, hln⟩ := story_at st_223
    have jf := judged_fool 2 2 3 H6 (by decide) (by decide) ds hst
    have jf' : fCall B_judged [(fC (.int 2)), (fC (.int 2)), (fC (.int 3))] fm1 H6 = some (.ok (.ref H6.length), H6 ++ [.pl (.ins 4 [.ref (H6.length + 1)]), .pl (.lst (encS ds))]) := by simp [jf]
    refine Run.nx (ifS_F (orT_F i1 (isc_F jf' (by simp) (by decide)))) ?_
    have h7 := get_snoc h6 [.pl (.ins 4 [.ref (H6.length + 1)]), .pl (.lst (encS ds))]
    generalize H6 ++ [.pl (.ins 4 [.ref (H6.length + 1)]), .pl (.lst (encS ds))] = H7 at *
    have tm := tMake 8 2 3 (by decide) H7
    refine Run.nx (fm1 := fm1.set 5 (some (.ref H7.length))) (h1 := H7 ++ [.tk (Tk.fresh 8 2 3)]) (by simp [tm]) ?_
    have f5 := set_at (fm := fm1) (i := 5) (by rw [hl]; decide) (some (.ref H7.length))
    have f2 : (fm1.set 5 (some (.ref H7.length)))[2]? = some (some (.int g)) := (List.getElem?_set_ne (by decide)).trans f2
    have hl : (fm1.set 5 (some (.ref H7.length))).length = 9 := by rw [List.length_set, hl]
    generalize fm1.set 5 (some (.ref H7.length)) = fm2 at *
    have t0 : ∀ x, isTb (H7 ++ x) 0 40 (lamQ "law") = true := fun x => by
      have := get_snoc h7 x
      simp [isTb, this]
    generalize hq : lamQ "law" = q at *
    have tA := t0 [.tk (Tk.fresh 8 2 3)]
    have tB := t0 [.tk (Tk.fresh 8 2 3), .lm 0 .non]
    have tC := t0 [.tk (Tk.fresh 8 2 3), .lm 0 .non, .lm 1 .non]
    have tD := t0 [.tk (Tk.fresh 8 2 3), .lm 0 .non, .lm 1 .non, .lm 2 .non]
    have tE := t0 [.tk (Tk.fresh 8 2 3), .lm 0 .non, .lm 1 .non, .lm 2 .non, .lm 3 (.ref H7.length)]
    have tF := t0 [.tk (Tk.fresh 8 2 3), .lm 0 .non, .lm 1 .non, .lm 2 .non, .lm 3 (.ref H7.length), .lm 4 (.ref H7.length)]
    refine Run.nx (fm1 := fm2.set 6 (some (.rl [.ref (H7.length + 1), .ref (H7.length + 2)]))) (h1 := H7 ++ [.tk (Tk.fresh 8 2 3), .lm 0 .non, .lm 1 .non]) (by simp [-isTb, tA, tB, z2]) ?_
    have f6 := set_at (fm := fm2) (i := 6) (by rw [hl]; decide) (some (.rl [.ref (H7.length + 1), .ref (H7.length + 2)]))
    have f5' : (fm2.set 6 (some (.rl [.ref (H7.length + 1), .ref (H7.length + 2)])))[5]? = _ := (List.getElem?_set_ne (by decide)).trans f5
    have f2' : (fm2.set 6 (some (.rl [.ref (H7.length + 1), .ref (H7.length + 2)])))[2]? = _ := (List.getElem?_set_ne (by decide)).trans f2
    have hl' : (fm2.set 6 (some (.rl [.ref (H7.length + 1), .ref (H7.length + 2)]))).length = 9 := by rw [List.length_set, hl]
    generalize fm2.set 6 (some (.rl [.ref (H7.length + 1), .ref (H7.length + 2)])) = fm3 at *
    have z4 : 4 ≤ sizeLine := by decide
    have z6 : 6 ≤ sizeLine := by decide
    refine Run.nx (fm1 := fm3.set 6 (some (.rl [.ref (H7.length + 1), .ref (H7.length + 2), .ref (H7.length + 3), .ref (H7.length + 4)]))) (h1 := H7 ++ [.tk (Tk.fresh 8 2 3), .lm 0 .non, .lm 1 .non, .lm 2 .non, .lm 3 (.ref H7.length)]) (by simp [-isTb, tC, tD, z2, z4, f5', f6]) ?_
    have f6 := set_at (fm := fm3) (i := 6) (by rw [hl']; decide) (some (.rl [.ref (H7.length + 1), .ref (H7.length + 2), .ref (H7.length + 3), .ref (H7.length + 4)]))
    have f5' : (fm3.set 6 (some (.rl [.ref (H7.length + 1), .ref (H7.length + 2), .ref (H7.length + 3), .ref (H7.length + 4)])))[5]? = _ := (List.getElem?_set_ne (by decide)).trans f5'
    have f2' : (fm3.set 6 (some (.rl [.ref (H7.length + 1), .ref (H7.length + 2), .ref (H7.length + 3), .ref (H7.length + 4)])))[2]? = _ := (List.getElem?_set_ne (by decide)).trans f2'
    have hl' : (fm3.set 6 (some (.rl [.ref (H7.length + 1), .ref (H7.length + 2), .ref (H7.length + 3), .ref (H7.length + 4)]))).length = 9 := by rw [List.length_set, hl']
    generalize fm3.set 6 (some (.rl [.ref (H7.length + 1), .ref (H7.length + 2), .ref (H7.length + 3), .ref (H7.length + 4)])) = fm4 at *
    refine Run.nx (fm1 := fm4.set 6 (some (.rl [.ref (H7.length + 1), .ref (H7.length + 2), .ref (H7.length + 3), .ref (H7.length + 4), .ref (H7.length + 5), .ref (H7.length + 6)]))) (h1 := H7 ++ [.tk (Tk.fresh 8 2 3), .lm 0 .non, .lm 1 .non, .lm 2 .non, .lm 3 (.ref H7.length), .lm 4 (.ref H7.length), .lm 5 (.ref H7.length)]) (by simp [-isTb, tE, tF, z2, z6, f5', f6]) ?_
    have f6 := set_at (fm := fm4) (i := 6) (by rw [hl']; decide) (some (.rl [.ref (H7.length + 1), .ref (H7.length + 2), .ref (H7.length + 3), .ref (H7.length + 4), .ref (H7.length + 5), .ref (H7.length + 6)]))
    have f5' : (fm4.set 6 (some (.rl [.ref (H7.length + 1), .ref (H7.length + 2), .ref (H7.length + 3), .ref (H7.length + 4), .ref (H7.length + 5), .ref (H7.length + 6)])))[5]? = _ := (List.getElem?_set_ne (by decide)).trans f5'
    have f2' : (fm4.set 6 (some (.rl [.ref (H7.length + 1), .ref (H7.length + 2), .ref (H7.length + 3), .ref (H7.length + 4), .ref (H7.length + 5), .ref (H7.length + 6)])))[2]? = _ := (List.getElem?_set_ne (by decide)).trans f2'
    have hl' : (fm4.set 6 (some (.rl [.ref (H7.length + 1), .ref (H7.length + 2), .ref (H7.length + 3), .ref (H7.length + 4), .ref (H7.length + 5), .ref (H7.length + 6)]))).length = 9 := by rw [List.length_set, hl']
    obtain ⟨h', e⟩ := last_run g hg _ hl' f2' H7 f5' f6
    exact Run.ret e rfl
  obtain ⟨r, h', e, rfl⟩ := key
  exact ⟨h', e⟩
theorem law_run (ns : List Int) (s : W) (h : VH) (hh : h.take 1 = tbs) (hs : lstAt h s = some (ns.map W.int)) (_hb : ∀ z ∈ ns, Builtin.Int.intBits z ≤ 1048576) : ∃ h', B_law [s] h = some (.ok (.bl true), h') := by
  have h0 : (forget h)[0]? = some tb0 := by
    cases h with
    | nil => simp at hh
    | cons c r =>
      have : c = tb0 := by simpa using hh
      subst this
      rfl
  obtain ⟨h', e⟩ := body_run ns s (forget h) h0 (lstAt_forget hs)
  exact ⟨forget h', by unfold B_law runL; rw [e]⟩
end Pr

namespace Pr
open PySem PySem.Spec PyProof.Rows L2 Tw
def pick {α : Type} : List α → α → Nat → α
  | [], d, _ => d
  | x :: _, _, 0 => x
  | _ :: xs, d, n + 1 => pick xs d n
theorem kit_ref {K : PySem.W.Frag} {c C : Addr} {b : Bool} (hd : PySem.W.hasDictIn K C = true) (ht : PySem.W.typeIn K (.ref C) = some (.type "type")) (self : PySem.W.subIn K (.ref C) (.ref C) = some true) (hs : PySem.W.subIn K (.ref c) (.ref C) = some b) : PySem.W.kitOne K (.ref c) (.ref C) = some b := by
  unfold PySem.W.kitOne
  by_cases q : (Value.ref c == Value.ref C) = true
  · have e : Value.ref c = Value.ref C := beq_iff_eq.mp q
    rw [e, self] at hs
    cases hs
    rw [if_pos q]
  · rw [if_neg q]
    obtain ⟨cd, hc, _⟩ := PySem.W.any_some hd
    have e2 : ((PySem.W.clsIn K C).isSome && PySem.W.typeIn K (.ref C) == some (.type "type")) = true := by rw [hc, ht] <;> rfl
    show (if ((PySem.W.clsIn K C).isSome && PySem.W.typeIn K (.ref C) == some (.type "type")) = true then PySem.W.subIn K (.ref c) (.ref C) else none) = some b
    rw [if_pos e2]
    exact hs
def spLaw (K : PySem.W.Frag) (tPs : List Addr) : Sp := fun vs H Q E => ∃ (a : Addr) (ns : List Int), vs = [.ref a] ∧ SqL K H a (ns.map V.int) ∧ (∀ z ∈ ns, Builtin.Int.intBits z ≤ 1048576) ∧ (∀ p ∈ tPs, H p = some (.tbl #[])) ∧ ∀ H', Q (.bl true) H'
theorem tb_cell {G : Gm} {ad : Nat → Option Addr} {H : Hp} {j : Nat} {q : Str} (hT : H (G.C j) = some (.tbl #[])) : CellR G ad H [G.C j] (.tb j q) := ⟨#[], rfl, hT, trivial, fun pos cv z => by
  have z' : codeAmong pos [] = some cv := z
  simp [codeAmong] at z'⟩
theorem ok_law {P : Program} {w : World} {K : PySem.W.Frag} {mg : Str → Option Value} {C A : Nat → Addr} {fd : Nat → FuncData} {base : Heap} (T : Tx w.params K mg C A fd) (U : Ub base mg C fd) (nd : [C 40].Nodup) : FnOk P w K mg base (L2N.CX P w) 8 (A 34) (fd 34) ["_law_script"] (spLaw K [C 40]) := by
  refine FnOk.imp (okB_law (P := P) (w := w) (base := base) (cc := 0) (cv := none) T U) fun vs H Q E h => ?_
  obtain ⟨a, ns, rfl, hS, hb, hT, q⟩ := h
  have hT0 := hT (C 40) (by simp)
  have fz : FzL K H a (ns.map V.int) → spF (gm K C 0 none) B_law [.ref a] H Q E := fun hf => by
    obtain ⟨h', e⟩ := law_run ns (.rl (ns.map W.int)) tbs rfl rfl hb
    refine ⟨_, _, _, _, [[C 40]], e, ⟨rfl, by simpa using nd, fun n c en => ?_⟩, .cons (.rl hf (RWs.of_ints ns)) .nil, fun io' H' x' E' v rv => ?_⟩
    · match n, en with
      | 0, en => cases en; exact ⟨[C 40], rfl, tb_cell (G := gm K C 0 none) hT0⟩
      | (n + 1), en => simp at en
    · cases rv
      exact q H'
  rcases hS with (hS | ⟨o, hS⟩) | hS
  · obtain ⟨h', e⟩ := law_run ns (.ref 1) (tbs ++ [.pl (.lst (ns.map W.int))]) rfl rfl hb
    have ne : a ∉ [C 40] := fun z => by
      have := hT a z
      rw [hS] at this
      cases this
    refine ⟨_, _, _, _, [[C 40], [a]], e, ⟨rfl, ?_, fun n c en => ?_⟩, .cons (.ref rfl) .nil, fun io' H' x' E' v rv => ?_⟩
    · show ([C 40] ++ [a]).Nodup
      rw [List.nodup_append]
      exact ⟨nd, by simp, fun x hx y hy z => by rw [List.mem_singleton.mp hy] at z; exact ne (z ▸ hx)⟩
    · match n, en with
      | 0, en => cases en; exact ⟨[C 40], rfl, tb_cell (G := gm K C 0 none) hT0⟩
      | 1, en => cases en; exact ⟨[a], rfl, a, rfl, _, hS, RWs.of_ints ns⟩
      | (n + 2), en => simp at en
    · cases rv
      exact q H'
  · exact fz (.inl ⟨o, hS⟩)
  · exact fz (.inr hS)
theorem all_mk {P : Program} {w : World} {K : PySem.W.Frag} {h : Heap} {mg : Str → Option Value} {fa C0 C1 C2 C3 C4 C10 C11 C12 C13 C14 C15 C16 C17 C18 C19 C20 cC0 tP0 C30 f0 f1 f2 f3 f4 f5 f6 f7 f8 f9 f10 f11 f12 f13 f14 f15 f16 f17 f18 f19 f20 f21 f22 f23 f24 f25 f26 f27 f28 f29 f30 f31 f32 f33 f34 : Addr} {l : PySem.W.OpenLaw} {q : Program} (hPl : l.prog = P) (X : K.In h) (G : h.Ns mainGlobals mg) (hfa : mg "law" = some (.ref fa)) (own : OwnTabs q mg K h)
    {od0 od1 od2 od3 od4 od5 od6 od7 od8 od9 od10 od11 od12 od13 od14 od15 od16 od17 od18 od19 od20 od21 od22 od23 od24 od25 od26 od27 od28 od29 od30 od31 od32 od33 od34 an0 an1 an2 an3 an4 an5 an6 an7 an8 an9 an10 an11 an12 an13 an14 an15 an16 an17 an18 an19 an20 an21 an22 an23 an24 an25 an26 an27 an28 an29 an30 an31 an32 an33 an34 : Option Addr} {sl0 sl1 sl2 sl3 sl4 sl5 sl6 sl7 sl8 sl9 sl10 sl11 sl12 sl13 sl14 sl15 sl16 sl17 sl18 sl19 sl20 sl21 sl22 sl23 sl24 sl25 sl26 sl27 sl28 sl29 sl30 sl31 sl32 sl33 sl34 : Array (Option Value)} {oc0 kV0 dc0 pm0 cd0 ct0 oc1 kV1 dc1 pm1 cd1 ct1 oc2 kV2 dc2 pm2 cd2 ct2 oc3 kV3 dc3 pm3 cd3 ct3 oc4 kV4 dc4 pm4 cd4 ct4 oc5 kV5 dc5 pm5 cd5 ct5 oc6 kV6 dc6 pm6 cd6 ct6 oc7 kV7 dc7 pm7 cd7 ct7 oc8 kV8 dc8 pm8 cd8 ct8 oc9 kV9 dc9 pm9 cd9 ct9 oc10 kV10 dc10 pm10 cd10 ct10 oc11 kV11 dc11 pm11 cd11 ct11 oc12 kV12 dc12 pm12 cd12 ct12 oc13 kV13 dc13 pm13 cd13 ct13 oc14 kV14 dc14 pm14 cd14 ct14 oc15 kV15 dc15 pm15 cd15 ct15 oc16 kV16 dc16 pm16 cd16 ct16 oc17 kV17 dc17 pm17 cd17 ct17 oc18 kV18 dc18 pm18 cd18 ct18 oc19 kV19 dc19 pm19 cd19 ct19 oc20 kV20 dc20 pm20 cd20 ct20 oc21 kV21 dc21 pm21 cd21 ct21 oc22 kV22 dc22 pm22 cd22 ct22 oc23 kV23 dc23 pm23 cd23 ct23 oc24 kV24 dc24 pm24 cd24 ct24 oc25 kV25 dc25 pm25 cd25 ct25 oc26 kV26 dc26 pm26 cd26 ct26 oc27 kV27 dc27 pm27 cd27 ct27 oc28 kV28 dc28 pm28 cd28 ct28 oc29 kV29 dc29 pm29 cd29 ct29 oc30 kV30 dc30 pm30 cd30 ct30 oc31 kV31 dc31 pm31 cd31 ct31 oc32 kV32 dc32 pm32 cd32 ct32 oc33 kV33 dc33 pm33 cd33 ct33 oc34 kV34 dc34 pm34 ct34 : Value} {t_LONGEST t_MOST_LIFE t_MOST_MARKS t_MOST_SAID t_MOST_WINDOW t_MOST_WORD : Tok} {es_SIZES : Array DictEntry} {nn_SIZES : Nat} {eC0 : Value} {ddC0 : Option Addr} {vsC0 : Array Value} {slC0 : Array (Option Value)}
    (aC0 : PySem.W.nsIn K mainGlobals "Talk" = some (some (.ref C0)))
    (aC1 : PySem.W.nsIn K mainGlobals "Done" = some (some (.ref C1)))
    (aC2 : PySem.W.nsIn K mainGlobals "Halt" = some (some (.ref C2)))
    (aC3 : PySem.W.nsIn K mainGlobals "Sure" = some (some (.ref C3)))
    (aC4 : PySem.W.nsIn K mainGlobals "Fooled" = some (some (.ref C4)))
    (aC10 : PySem.W.nsIn K mainGlobals "PorchError" = some (some (.ref C10)))
    (aC11 : PySem.W.nsIn K mainGlobals "BadMarks" = some (some (.ref C11)))
    (aC12 : PySem.W.nsIn K mainGlobals "BadWindow" = some (some (.ref C12)))
    (aC13 : PySem.W.nsIn K mainGlobals "BadLife" = some (some (.ref C13)))
    (aC14 : PySem.W.nsIn K mainGlobals "BadWord" = some (some (.ref C14)))
    (aC15 : PySem.W.nsIn K mainGlobals "BadPorch" = some (some (.ref C15)))
    (aC16 : PySem.W.nsIn K mainGlobals "BadNumber" = some (some (.ref C16)))
    (aC17 : PySem.W.nsIn K mainGlobals "BadPlace" = some (some (.ref C17)))
    (aC18 : PySem.W.nsIn K mainGlobals "BadStory" = some (some (.ref C18)))
    (aC19 : PySem.W.nsIn K mainGlobals "Waits" = some (some (.ref C19)))
    (aC20 : PySem.W.nsIn K mainGlobals "Down" = some (some (.ref C20)))
    (a0 : PySem.W.nsIn K mainGlobals "is_whole" = some (some (.ref f0)))
    (l0 : K.lookup f0 = some ⟨oc0, od0, .func (PySem.W.fnOf "is_whole" "is_whole" (defArgs s_is_whole) (defBody s_is_whole) (defScope s_is_whole) .none kV0 dc0 pm0 an0 cd0 ct0), sl0⟩)
    (c0 : PySem.W.codeIn K cd0 "is_whole" = true)
    (k0 : PySem.W.keepIn K (.ref f0) = true)
    (a1 : PySem.W.nsIn K mainGlobals "asked_bounds" = some (some (.ref f1)))
    (l1 : K.lookup f1 = some ⟨oc1, od1, .func (PySem.W.fnOf "asked_bounds" "asked_bounds" (defArgs s_asked_bounds) (defBody s_asked_bounds) (defScope s_asked_bounds) .none kV1 dc1 pm1 an1 cd1 ct1), sl1⟩)
    (c1 : PySem.W.codeIn K cd1 "asked_bounds" = true)
    (k1 : PySem.W.keepIn K (.ref f1) = true)
    (a2 : PySem.W.findIn K (.ref C0) "__init__" = some (some (.ref f2)))
    (i2 : PySem.W.isFn K (.ref f2) = true)
    (l2 : K.lookup f2 = some ⟨oc2, od2, .func (PySem.W.fnOf "__init__" "Talk.__init__" (defArgs s_Talk_init) (defBody s_Talk_init) (defScope s_Talk_init) .none kV2 dc2 pm2 an2 cd2 ct2), sl2⟩)
    (c2 : PySem.W.codeIn K cd2 "Talk.__init__" = true)
    (k2 : PySem.W.keepIn K (.ref f2) = true)
    (a3 : PySem.W.findIn K (.ref C0) "ask_porch" = some (some (.ref f3)))
    (i3 : PySem.W.isFn K (.ref f3) = true)
    (l3 : K.lookup f3 = some ⟨oc3, od3, .func (PySem.W.fnOf "ask_porch" "Talk.ask_porch" (defArgs s_Talk_ask_porch) (defBody s_Talk_ask_porch) (defScope s_Talk_ask_porch) .none kV3 dc3 pm3 an3 cd3 ct3), sl3⟩)
    (c3 : PySem.W.codeIn K cd3 "Talk.ask_porch" = true)
    (k3 : PySem.W.keepIn K (.ref f3) = true)
    (a4 : PySem.W.findIn K (.ref C0) "say" = some (some (.ref f4)))
    (i4 : PySem.W.isFn K (.ref f4) = true)
    (l4 : K.lookup f4 = some ⟨oc4, od4, .func (PySem.W.fnOf "say" "Talk.say" (defArgs s_Talk_say) (defBody s_Talk_say) (defScope s_Talk_say) .none kV4 dc4 pm4 an4 cd4 ct4), sl4⟩)
    (c4 : PySem.W.codeIn K cd4 "Talk.say" = true)
    (k4 : PySem.W.keepIn K (.ref f4) = true)
    (a5 : PySem.W.findIn K (.ref C0) "put_on" = some (some (.ref f5)))
    (i5 : PySem.W.isFn K (.ref f5) = true)
    (l5 : K.lookup f5 = some ⟨oc5, od5, .func (PySem.W.fnOf "put_on" "Talk.put_on" (defArgs s_Talk_put_on) (defBody s_Talk_put_on) (defScope s_Talk_put_on) .none kV5 dc5 pm5 an5 cd5 ct5), sl5⟩)
    (c5 : PySem.W.codeIn K cd5 "Talk.put_on" = true)
    (k5 : PySem.W.keepIn K (.ref f5) = true)
    (a6 : PySem.W.findIn K (.ref C0) "post" = some (some (.ref f6)))
    (i6 : PySem.W.isFn K (.ref f6) = true)
    (l6 : K.lookup f6 = some ⟨oc6, od6, .func (PySem.W.fnOf "post" "Talk.post" (defArgs s_Talk_post) (defBody s_Talk_post) (defScope s_Talk_post) .none kV6 dc6 pm6 an6 cd6 ct6), sl6⟩)
    (c6 : PySem.W.codeIn K cd6 "Talk.post" = true)
    (k6 : PySem.W.keepIn K (.ref f6) = true)
    (a7 : PySem.W.findIn K (.ref C0) "answer" = some (some (.ref f7)))
    (i7 : PySem.W.isFn K (.ref f7) = true)
    (l7 : K.lookup f7 = some ⟨oc7, od7, .func (PySem.W.fnOf "answer" "Talk.answer" (defArgs s_Talk_answer) (defBody s_Talk_answer) (defScope s_Talk_answer) .none kV7 dc7 pm7 an7 cd7 ct7), sl7⟩)
    (c7 : PySem.W.codeIn K cd7 "Talk.answer" = true)
    (k7 : PySem.W.keepIn K (.ref f7) = true)
    (a8 : PySem.W.findIn K (.ref C0) "take_off" = some (some (.ref f8)))
    (i8 : PySem.W.isFn K (.ref f8) = true)
    (l8 : K.lookup f8 = some ⟨oc8, od8, .func (PySem.W.fnOf "take_off" "Talk.take_off" (defArgs s_Talk_take_off) (defBody s_Talk_take_off) (defScope s_Talk_take_off) .none kV8 dc8 pm8 an8 cd8 ct8), sl8⟩)
    (c8 : PySem.W.codeIn K cd8 "Talk.take_off" = true)
    (k8 : PySem.W.keepIn K (.ref f8) = true)
    (a9 : PySem.W.findIn K (.ref C0) "bring" = some (some (.ref f9)))
    (i9 : PySem.W.isFn K (.ref f9) = true)
    (l9 : K.lookup f9 = some ⟨oc9, od9, .func (PySem.W.fnOf "bring" "Talk.bring" (defArgs s_Talk_bring) (defBody s_Talk_bring) (defScope s_Talk_bring) .none kV9 dc9 pm9 an9 cd9 ct9), sl9⟩)
    (c9 : PySem.W.codeIn K cd9 "Talk.bring" = true)
    (k9 : PySem.W.keepIn K (.ref f9) = true)
    (a10 : PySem.W.findIn K (.ref C0) "lose" = some (some (.ref f10)))
    (i10 : PySem.W.isFn K (.ref f10) = true)
    (l10 : K.lookup f10 = some ⟨oc10, od10, .func (PySem.W.fnOf "lose" "Talk.lose" (defArgs s_Talk_lose) (defBody s_Talk_lose) (defScope s_Talk_lose) .none kV10 dc10 pm10 an10 cd10 ct10), sl10⟩)
    (c10 : PySem.W.codeIn K cd10 "Talk.lose" = true)
    (k10 : PySem.W.keepIn K (.ref f10) = true)
    (a11 : PySem.W.findIn K (.ref C0) "fall" = some (some (.ref f11)))
    (i11 : PySem.W.isFn K (.ref f11) = true)
    (l11 : K.lookup f11 = some ⟨oc11, od11, .func (PySem.W.fnOf "fall" "Talk.fall" (defArgs s_Talk_fall) (defBody s_Talk_fall) (defScope s_Talk_fall) .none kV11 dc11 pm11 an11 cd11 ct11), sl11⟩)
    (c11 : PySem.W.codeIn K cd11 "Talk.fall" = true)
    (k11 : PySem.W.keepIn K (.ref f11) = true)
    (a12 : PySem.W.findIn K (.ref C0) "rise" = some (some (.ref f12)))
    (i12 : PySem.W.isFn K (.ref f12) = true)
    (l12 : K.lookup f12 = some ⟨oc12, od12, .func (PySem.W.fnOf "rise" "Talk.rise" (defArgs s_Talk_rise) (defBody s_Talk_rise) (defScope s_Talk_rise) .none kV12 dc12 pm12 an12 cd12 ct12), sl12⟩)
    (c12 : PySem.W.codeIn K cd12 "Talk.rise" = true)
    (k12 : PySem.W.keepIn K (.ref f12) = true)
    (a13 : PySem.W.findIn K (.ref C0) "tick" = some (some (.ref f13)))
    (i13 : PySem.W.isFn K (.ref f13) = true)
    (l13 : K.lookup f13 = some ⟨oc13, od13, .func (PySem.W.fnOf "tick" "Talk.tick" (defArgs s_Talk_tick) (defBody s_Talk_tick) (defScope s_Talk_tick) .none kV13 dc13 pm13 an13 cd13 ct13), sl13⟩)
    (c13 : PySem.W.codeIn K cd13 "Talk.tick" = true)
    (k13 : PySem.W.keepIn K (.ref f13) = true)
    (a14 : PySem.W.findIn K (.ref C0) "words_heard" = some (some (.ref f14)))
    (i14 : PySem.W.isFn K (.ref f14) = true)
    (l14 : K.lookup f14 = some ⟨oc14, od14, .func (PySem.W.fnOf "words_heard" "Talk.words_heard" (defArgs s_Talk_words_heard) (defBody s_Talk_words_heard) (defScope s_Talk_words_heard) .none kV14 dc14 pm14 an14 cd14 ct14), sl14⟩)
    (c14 : PySem.W.codeIn K cd14 "Talk.words_heard" = true)
    (k14 : PySem.W.keepIn K (.ref f14) = true)
    (a15 : PySem.W.findIn K (.ref C0) "words_said" = some (some (.ref f15)))
    (i15 : PySem.W.isFn K (.ref f15) = true)
    (l15 : K.lookup f15 = some ⟨oc15, od15, .func (PySem.W.fnOf "words_said" "Talk.words_said" (defArgs s_Talk_words_said) (defBody s_Talk_words_said) (defScope s_Talk_words_said) .none kV15 dc15 pm15 an15 cd15 ct15), sl15⟩)
    (c15 : PySem.W.codeIn K cd15 "Talk.words_said" = true)
    (k15 : PySem.W.keepIn K (.ref f15) = true)
    (a16 : PySem.W.findIn K (.ref C0) "road" = some (some (.ref f16)))
    (l16 : K.lookup f16 = some ⟨oc16, od16, .func (PySem.W.fnOf "road" "Talk.road" (defArgs s_Talk_road) (defBody s_Talk_road) (defScope s_Talk_road) .none kV16 dc16 pm16 an16 cd16 ct16), sl16⟩)
    (c16 : PySem.W.codeIn K cd16 "Talk.road" = true)
    (k16 : PySem.W.keepIn K (.ref f16) = true)
    (a17 : PySem.W.nsIn K mainGlobals "do_deed" = some (some (.ref f17)))
    (l17 : K.lookup f17 = some ⟨oc17, od17, .func (PySem.W.fnOf "do_deed" "do_deed" (defArgs s_do_deed) (defBody s_do_deed) (defScope s_do_deed) .none kV17 dc17 pm17 an17 cd17 ct17), sl17⟩)
    (c17 : PySem.W.codeIn K cd17 "do_deed" = true)
    (k17 : PySem.W.keepIn K (.ref f17) = true)
    (a18 : PySem.W.nsIn K mainGlobals "play" = some (some (.ref f18)))
    (l18 : K.lookup f18 = some ⟨oc18, od18, .func (PySem.W.fnOf "play" "play" (defArgs s_play) (defBody s_play) (defScope s_play) .none kV18 dc18 pm18 an18 cd18 ct18), sl18⟩)
    (c18 : PySem.W.codeIn K cd18 "play" = true)
    (k18 : PySem.W.keepIn K (.ref f18) = true)
    (a19 : PySem.W.findIn K (.ref C3) "shows" = some (some (.ref f19)))
    (l19 : K.lookup f19 = some ⟨oc19, od19, .func (PySem.W.fnOf "shows" "Sure.shows" (defArgs s_Sure_shows) (defBody s_Sure_shows) (defScope s_Sure_shows) .none kV19 dc19 pm19 an19 cd19 ct19), sl19⟩)
    (c19 : PySem.W.codeIn K cd19 "Sure.shows" = true)
    (k19 : PySem.W.keepIn K (.ref f19) = true)
    (a20 : PySem.W.findIn K (.ref C4) "__init__" = some (some (.ref f20)))
    (i20 : PySem.W.isFn K (.ref f20) = true)
    (l20 : K.lookup f20 = some ⟨oc20, od20, .func (PySem.W.fnOf "__init__" "Fooled.__init__" (defArgs s_Fooled_init) (defBody s_Fooled_init) (defScope s_Fooled_init) .none kV20 dc20 pm20 an20 cd20 ct20), sl20⟩)
    (c20 : PySem.W.codeIn K cd20 "Fooled.__init__" = true)
    (k20 : PySem.W.keepIn K (.ref f20) = true)
    (a21 : PySem.W.findIn K (.ref C4) "shows" = some (some (.ref f21)))
    (l21 : K.lookup f21 = some ⟨oc21, od21, .func (PySem.W.fnOf "shows" "Fooled.shows" (defArgs s_Fooled_shows) (defBody s_Fooled_shows) (defScope s_Fooled_shows) .none kV21 dc21 pm21 an21 cd21 ct21), sl21⟩)
    (c21 : PySem.W.codeIn K cd21 "Fooled.shows" = true)
    (k21 : PySem.W.keepIn K (.ref f21) = true)
    (a22 : PySem.W.findIn K (.ref C1) "__init__" = some (some (.ref f22)))
    (i22 : PySem.W.isFn K (.ref f22) = true)
    (l22 : K.lookup f22 = some ⟨oc22, od22, .func (PySem.W.fnOf "__init__" "Done.__init__" (defArgs s_Done_init) (defBody s_Done_init) (defScope s_Done_init) .none kV22 dc22 pm22 an22 cd22 ct22), sl22⟩)
    (c22 : PySem.W.codeIn K cd22 "Done.__init__" = true)
    (k22 : PySem.W.keepIn K (.ref f22) = true)
    (a23 : PySem.W.findIn K (.ref C1) "shows" = some (some (.ref f23)))
    (i23 : PySem.W.isFn K (.ref f23) = true)
    (l23 : K.lookup f23 = some ⟨oc23, od23, .func (PySem.W.fnOf "shows" "Done.shows" (defArgs s_Done_shows) (defBody s_Done_shows) (defScope s_Done_shows) .none kV23 dc23 pm23 an23 cd23 ct23), sl23⟩)
    (c23 : PySem.W.codeIn K cd23 "Done.shows" = true)
    (k23 : PySem.W.keepIn K (.ref f23) = true)
    (a24 : PySem.W.findIn K (.ref C2) "__init__" = some (some (.ref f24)))
    (i24 : PySem.W.isFn K (.ref f24) = true)
    (l24 : K.lookup f24 = some ⟨oc24, od24, .func (PySem.W.fnOf "__init__" "Halt.__init__" (defArgs s_Halt_init) (defBody s_Halt_init) (defScope s_Halt_init) .none kV24 dc24 pm24 an24 cd24 ct24), sl24⟩)
    (c24 : PySem.W.codeIn K cd24 "Halt.__init__" = true)
    (k24 : PySem.W.keepIn K (.ref f24) = true)
    (a25 : PySem.W.findIn K (.ref C2) "shows" = some (some (.ref f25)))
    (i25 : PySem.W.isFn K (.ref f25) = true)
    (l25 : K.lookup f25 = some ⟨oc25, od25, .func (PySem.W.fnOf "shows" "Halt.shows" (defArgs s_Halt_shows) (defBody s_Halt_shows) (defScope s_Halt_shows) .none kV25 dc25 pm25 an25 cd25 ct25), sl25⟩)
    (c25 : PySem.W.codeIn K cd25 "Halt.shows" = true)
    (k25 : PySem.W.keepIn K (.ref f25) = true)
    (a26 : PySem.W.nsIn K mainGlobals "is_deed" = some (some (.ref f26)))
    (l26 : K.lookup f26 = some ⟨oc26, od26, .func (PySem.W.fnOf "is_deed" "is_deed" (defArgs s_is_deed) (defBody s_is_deed) (defScope s_is_deed) .none kV26 dc26 pm26 an26 cd26 ct26), sl26⟩)
    (c26 : PySem.W.codeIn K cd26 "is_deed" = true)
    (k26 : PySem.W.keepIn K (.ref f26) = true)
    (a27 : PySem.W.nsIn K mainGlobals "told" = some (some (.ref f27)))
    (l27 : K.lookup f27 = some ⟨oc27, od27, .func (PySem.W.fnOf "told" "told" (defArgs s_told) (defBody s_told) (defScope s_told) .none kV27 dc27 pm27 an27 cd27 ct27), sl27⟩)
    (c27 : PySem.W.codeIn K cd27 "told" = true)
    (k27 : PySem.W.keepIn K (.ref f27) = true)
    (a28 : PySem.W.nsIn K mainGlobals "heard_one" = some (some (.ref f28)))
    (l28 : K.lookup f28 = some ⟨oc28, od28, .func (PySem.W.fnOf "heard_one" "heard_one" (defArgs s_heard_one) (defBody s_heard_one) (defScope s_heard_one) .none kV28 dc28 pm28 an28 cd28 ct28), sl28⟩)
    (c28 : PySem.W.codeIn K cd28 "heard_one" = true)
    (k28 : PySem.W.keepIn K (.ref f28) = true)
    (a29 : PySem.W.nsIn K mainGlobals "answered" = some (some (.ref f29)))
    (l29 : K.lookup f29 = some ⟨oc29, od29, .func (PySem.W.fnOf "answered" "answered" (defArgs s_answered) (defBody s_answered) (defScope s_answered) .none kV29 dc29 pm29 an29 cd29 ct29), sl29⟩)
    (c29 : PySem.W.codeIn K cd29 "answered" = true)
    (k29 : PySem.W.keepIn K (.ref f29) = true)
    (a30 : PySem.W.nsIn K mainGlobals "story_of" = some (some (.ref f30)))
    (l30 : K.lookup f30 = some ⟨oc30, od30, .func (PySem.W.fnOf "story_of" "story_of" (defArgs s_story_of) (defBody s_story_of) (defScope s_story_of) .none kV30 dc30 pm30 an30 cd30 ct30), sl30⟩)
    (c30 : PySem.W.codeIn K cd30 "story_of" = true)
    (k30 : PySem.W.keepIn K (.ref f30) = true)
    (a31 : PySem.W.nsIn K mainGlobals "judged" = some (some (.ref f31)))
    (l31 : K.lookup f31 = some ⟨oc31, od31, .func (PySem.W.fnOf "judged" "judged" (defArgs s_judged) (defBody s_judged) (defScope s_judged) .none kV31 dc31 pm31 an31 cd31 ct31), sl31⟩)
    (c31 : PySem.W.codeIn K cd31 "judged" = true)
    (k31 : PySem.W.keepIn K (.ref f31) = true)
    (a32 : PySem.W.nsIn K mainGlobals "_law_refused" = some (some (.ref f32)))
    (l32 : K.lookup f32 = some ⟨oc32, od32, .func (PySem.W.fnOf "_law_refused" "_law_refused" (defArgs s__law_refused) (defBody s__law_refused) (defScope s__law_refused) .none kV32 dc32 pm32 an32 cd32 ct32), sl32⟩)
    (c32 : PySem.W.codeIn K cd32 "_law_refused" = true)
    (k32 : PySem.W.keepIn K (.ref f32) = true)
    (a33 : PySem.W.nsIn K mainGlobals "_law_great" = some (some (.ref f33)))
    (l33 : K.lookup f33 = some ⟨oc33, od33, .func (PySem.W.fnOf "_law_great" "_law_great" (defArgs s__law_great) (defBody s__law_great) (defScope s__law_great) .none kV33 dc33 pm33 an33 cd33 ct33), sl33⟩)
    (c33 : PySem.W.codeIn K cd33 "_law_great" = true)
    (k33 : PySem.W.keepIn K (.ref f33) = true)
    (a34 : PySem.W.nsIn K mainGlobals "law" = some (some (.ref f34)))
    (l34 : K.lookup f34 = some ⟨oc34, od34, .func (PySem.W.fnOf "law" "law" (defArgs s_law) (defBody s_law) (defScope s_law) .none kV34 dc34 pm34 an34 (.ref cC0) ct34), sl34⟩)
    (c34 : PySem.W.codeIn K (.ref cC0) "law" = true)
    (k34 : PySem.W.keepIn K (.ref f34) = true)
    (pg0 : PySem.W.plainGet K C0 Str.empty = true)
    (hd0 : PySem.W.hasDictIn K C0 = true)
    (po0 : PySem.W.plainOver K C0 = true)
    (sa0 : PySem.W.findIn K (.ref C0) "__setattr__" = some (some (.builtin "object.__setattr__")))
    (pg1 : PySem.W.plainGet K C1 Str.empty = true)
    (hd1 : PySem.W.hasDictIn K C1 = true)
    (po1 : PySem.W.plainOver K C1 = true)
    (sa1 : PySem.W.findIn K (.ref C1) "__setattr__" = some (some (.builtin "object.__setattr__")))
    (pg2 : PySem.W.plainGet K C2 Str.empty = true)
    (hd2 : PySem.W.hasDictIn K C2 = true)
    (po2 : PySem.W.plainOver K C2 = true)
    (sa2 : PySem.W.findIn K (.ref C2) "__setattr__" = some (some (.builtin "object.__setattr__")))
    (pg3 : PySem.W.plainGet K C3 Str.empty = true)
    (hd3 : PySem.W.hasDictIn K C3 = true)
    (po3 : PySem.W.plainOver K C3 = true)
    (sa3 : PySem.W.findIn K (.ref C3) "__setattr__" = some (some (.builtin "object.__setattr__")))
    (pg4 : PySem.W.plainGet K C4 Str.empty = true)
    (hd4 : PySem.W.hasDictIn K C4 = true)
    (po4 : PySem.W.plainOver K C4 = true)
    (sa4 : PySem.W.findIn K (.ref C4) "__setattr__" = some (some (.builtin "object.__setattr__")))
    (mk0 : PySem.W.makesIn K C0 = true)
    (kc0 : PySem.W.keepIn K (.ref C0) = true)
    (mk4 : PySem.W.makesIn K C4 = true)
    (kc4 : PySem.W.keepIn K (.ref C4) = true)
    (mk1 : PySem.W.makesIn K C1 = true)
    (kc1 : PySem.W.keepIn K (.ref C1) = true)
    (mk2 : PySem.W.makesIn K C2 = true)
    (kc2 : PySem.W.keepIn K (.ref C2) = true)
    (na0_early : PySem.W.findIn K (.ref C0) "early" = some none)
    (na0_heard : PySem.W.findIn K (.ref C0) "heard" = some none)
    (na0_known : PySem.W.findIn K (.ref C0) "known" = some none)
    (na0_last : PySem.W.findIn K (.ref C0) "last" = some none)
    (na0_life : PySem.W.findIn K (.ref C0) "life" = some none)
    (na0_marks : PySem.W.findIn K (.ref C0) "marks" = some none)
    (na0_now : PySem.W.findIn K (.ref C0) "now" = some none)
    (na0_roads : PySem.W.findIn K (.ref C0) "roads" = some none)
    (na0_said : PySem.W.findIn K (.ref C0) "said" = some none)
    (na0_stands : PySem.W.findIn K (.ref C0) "stands" = some none)
    (na0_window : PySem.W.findIn K (.ref C0) "window" = some none)
    (na1_words : PySem.W.findIn K (.ref C1) "words" = some none)
    (na2_place : PySem.W.findIn K (.ref C2) "place" = some none)
    (na4_story : PySem.W.findIn K (.ref C4) "story" = some none)
    (xx11 : PySem.W.excIn K C11 [.type "ValueError", .type "Exception", .type "BaseException", .type "object"] "ValueError.__new__" = true)
    (xk11 : PySem.W.keepIn K (.ref C11) = true)
    (xb11 : PySem.W.subIn K (.ref C11) (.type "BaseException") = some true)
    (xt11 : PySem.W.typeIn K (.ref C11) = some (.type "type"))
    (xx12 : PySem.W.excIn K C12 [.type "ValueError", .type "Exception", .type "BaseException", .type "object"] "ValueError.__new__" = true)
    (xk12 : PySem.W.keepIn K (.ref C12) = true)
    (xb12 : PySem.W.subIn K (.ref C12) (.type "BaseException") = some true)
    (xt12 : PySem.W.typeIn K (.ref C12) = some (.type "type"))
    (xx13 : PySem.W.excIn K C13 [.type "ValueError", .type "Exception", .type "BaseException", .type "object"] "ValueError.__new__" = true)
    (xk13 : PySem.W.keepIn K (.ref C13) = true)
    (xb13 : PySem.W.subIn K (.ref C13) (.type "BaseException") = some true)
    (xt13 : PySem.W.typeIn K (.ref C13) = some (.type "type"))
    (xx14 : PySem.W.excIn K C14 [.type "ValueError", .type "Exception", .type "BaseException", .type "object"] "ValueError.__new__" = true)
    (xk14 : PySem.W.keepIn K (.ref C14) = true)
    (xb14 : PySem.W.subIn K (.ref C14) (.type "BaseException") = some true)
    (xt14 : PySem.W.typeIn K (.ref C14) = some (.type "type"))
    (xx15 : PySem.W.excIn K C15 [.type "ValueError", .type "Exception", .type "BaseException", .type "object"] "ValueError.__new__" = true)
    (xk15 : PySem.W.keepIn K (.ref C15) = true)
    (xb15 : PySem.W.subIn K (.ref C15) (.type "BaseException") = some true)
    (xt15 : PySem.W.typeIn K (.ref C15) = some (.type "type"))
    (xx16 : PySem.W.excIn K C16 [.type "ValueError", .type "Exception", .type "BaseException", .type "object"] "ValueError.__new__" = true)
    (xk16 : PySem.W.keepIn K (.ref C16) = true)
    (xb16 : PySem.W.subIn K (.ref C16) (.type "BaseException") = some true)
    (xt16 : PySem.W.typeIn K (.ref C16) = some (.type "type"))
    (xx17 : PySem.W.excIn K C17 [.type "ValueError", .type "Exception", .type "BaseException", .type "object"] "ValueError.__new__" = true)
    (xk17 : PySem.W.keepIn K (.ref C17) = true)
    (xb17 : PySem.W.subIn K (.ref C17) (.type "BaseException") = some true)
    (xt17 : PySem.W.typeIn K (.ref C17) = some (.type "type"))
    (xx18 : PySem.W.excIn K C18 [.type "ValueError", .type "Exception", .type "BaseException", .type "object"] "ValueError.__new__" = true)
    (xk18 : PySem.W.keepIn K (.ref C18) = true)
    (xb18 : PySem.W.subIn K (.ref C18) (.type "BaseException") = some true)
    (xt18 : PySem.W.typeIn K (.ref C18) = some (.type "type"))
    (xx19 : PySem.W.excIn K C19 [.type "ValueError", .type "Exception", .type "BaseException", .type "object"] "ValueError.__new__" = true)
    (xk19 : PySem.W.keepIn K (.ref C19) = true)
    (xb19 : PySem.W.subIn K (.ref C19) (.type "BaseException") = some true)
    (xt19 : PySem.W.typeIn K (.ref C19) = some (.type "type"))
    (xx20 : PySem.W.excIn K C20 [.type "ValueError", .type "Exception", .type "BaseException", .type "object"] "ValueError.__new__" = true)
    (xk20 : PySem.W.keepIn K (.ref C20) = true)
    (xb20 : PySem.W.subIn K (.ref C20) (.type "BaseException") = some true)
    (xt20 : PySem.W.typeIn K (.ref C20) = some (.type "type"))
    (yb10 : PySem.W.subIn K (.ref C10) (.type "BaseException") = some true)
    (yd10 : PySem.W.hasDictIn K C10 = true)
    (yt10 : PySem.W.typeIn K (.ref C10) = some (.type "type"))
    (ys10 : PySem.W.subIn K (.ref C10) (.ref C10) = some true)
    (ys11 : PySem.W.subIn K (.ref C11) (.ref C10) = some true)
    (ys12 : PySem.W.subIn K (.ref C12) (.ref C10) = some true)
    (ys13 : PySem.W.subIn K (.ref C13) (.ref C10) = some true)
    (ys14 : PySem.W.subIn K (.ref C14) (.ref C10) = some true)
    (ys15 : PySem.W.subIn K (.ref C15) (.ref C10) = some true)
    (ys16 : PySem.W.subIn K (.ref C16) (.ref C10) = some true)
    (ys17 : PySem.W.subIn K (.ref C17) (.ref C10) = some true)
    (ys18 : PySem.W.subIn K (.ref C18) (.ref C10) = some true)
    (ys19 : PySem.W.subIn K (.ref C19) (.ref C10) = some true)
    (ys20 : PySem.W.subIn K (.ref C20) (.ref C10) = some true)
    (nb_ValueError : PySem.W.nsIn K mainGlobals "ValueError" = some none)
    (nb_abs : PySem.W.nsIn K mainGlobals "abs" = some none)
    (nb_all : PySem.W.nsIn K mainGlobals "all" = some none)
    (nb_bool : PySem.W.nsIn K mainGlobals "bool" = some none)
    (nb_enumerate : PySem.W.nsIn K mainGlobals "enumerate" = some none)
    (nb_int : PySem.W.nsIn K mainGlobals "int" = some none)
    (nb_isinstance : PySem.W.nsIn K mainGlobals "isinstance" = some none)
    (nb_len : PySem.W.nsIn K mainGlobals "len" = some none)
    (nb_list : PySem.W.nsIn K mainGlobals "list" = some none)
    (nb_max : PySem.W.nsIn K mainGlobals "max" = some none)
    (nb_min : PySem.W.nsIn K mainGlobals "min" = some none)
    (nb_range : PySem.W.nsIn K mainGlobals "range" = some none)
    (nb_str : PySem.W.nsIn K mainGlobals "str" = some none)
    (nb_sum : PySem.W.nsIn K mainGlobals "sum" = some none)
    (nb_tuple : PySem.W.nsIn K mainGlobals "tuple" = some none)
    (nb_zip : PySem.W.nsIn K mainGlobals "zip" = some none)
    (cv_LONGEST : PySem.W.nsIn K mainGlobals "LONGEST" = some (some (.int 200 t_LONGEST)))
    (cv_MOST_LIFE : PySem.W.nsIn K mainGlobals "MOST_LIFE" = some (some (.int 4 t_MOST_LIFE)))
    (cv_MOST_MARKS : PySem.W.nsIn K mainGlobals "MOST_MARKS" = some (some (.int 16 t_MOST_MARKS)))
    (cv_MOST_SAID : PySem.W.nsIn K mainGlobals "MOST_SAID" = some (some (.int 60 t_MOST_SAID)))
    (cv_MOST_WINDOW : PySem.W.nsIn K mainGlobals "MOST_WINDOW" = some (some (.int 3 t_MOST_WINDOW)))
    (cv_MOST_WORD : PySem.W.nsIn K mainGlobals "MOST_WORD" = some (some (.int 99 t_MOST_WORD)))
    (kn : PySem.W.specialIn K (.builtin "object.__class__") "__get__" = some (some (.builtin "getset_descriptor.__get__")))
    (ktk : PySem.W.takesIn K (.builtin "object.__class__") = some true)
    (kha0 : PySem.W.findIn K (.ref C0) "__class__" = some (some (.builtin "object.__class__")))
    (khm0 : PySem.W.mroIn K C0 (.type "object") = some true)
    (kha3 : PySem.W.findIn K (.ref C3) "__class__" = some (some (.builtin "object.__class__")))
    (khm3 : PySem.W.mroIn K C3 (.type "object") = some true)
    (kha4 : PySem.W.findIn K (.ref C4) "__class__" = some (some (.builtin "object.__class__")))
    (khm4 : PySem.W.mroIn K C4 (.type "object") = some true)
    (kha1 : PySem.W.findIn K (.ref C1) "__class__" = some (some (.builtin "object.__class__")))
    (khm1 : PySem.W.mroIn K C1 (.type "object") = some true)
    (kha2 : PySem.W.findIn K (.ref C2) "__class__" = some (some (.builtin "object.__class__")))
    (khm2 : PySem.W.mroIn K C2 (.type "object") = some true)
    (kt1 : PySem.W.typeIn K (.ref C1) = some (.type "type"))
    (kd1 : PySem.W.hasDictIn K C1 = true)
    (kf1 : PySem.W.subIn K (.ref C1) (.ref C1) = some true)
    (kk0_1 : PySem.W.subIn K (.ref C0) (.ref C1) = some false)
    (kk3_1 : PySem.W.subIn K (.ref C3) (.ref C1) = some false)
    (kk4_1 : PySem.W.subIn K (.ref C4) (.ref C1) = some false)
    (kk1_1 : PySem.W.subIn K (.ref C1) (.ref C1) = some true)
    (kk2_1 : PySem.W.subIn K (.ref C2) (.ref C1) = some false)
    (kt2 : PySem.W.typeIn K (.ref C2) = some (.type "type"))
    (kd2 : PySem.W.hasDictIn K C2 = true)
    (kf2 : PySem.W.subIn K (.ref C2) (.ref C2) = some true)
    (kk0_2 : PySem.W.subIn K (.ref C0) (.ref C2) = some false)
    (kk3_2 : PySem.W.subIn K (.ref C3) (.ref C2) = some false)
    (kk4_2 : PySem.W.subIn K (.ref C4) (.ref C2) = some false)
    (kk1_2 : PySem.W.subIn K (.ref C1) (.ref C2) = some false)
    (kk2_2 : PySem.W.subIn K (.ref C2) (.ref C2) = some true)
    (kt3 : PySem.W.typeIn K (.ref C3) = some (.type "type"))
    (kd3 : PySem.W.hasDictIn K C3 = true)
    (kf3 : PySem.W.subIn K (.ref C3) (.ref C3) = some true)
    (kk0_3 : PySem.W.subIn K (.ref C0) (.ref C3) = some false)
    (kk3_3 : PySem.W.subIn K (.ref C3) (.ref C3) = some true)
    (kk4_3 : PySem.W.subIn K (.ref C4) (.ref C3) = some false)
    (kk1_3 : PySem.W.subIn K (.ref C1) (.ref C3) = some false)
    (kk2_3 : PySem.W.subIn K (.ref C2) (.ref C3) = some false)
    (kt4 : PySem.W.typeIn K (.ref C4) = some (.type "type"))
    (kd4 : PySem.W.hasDictIn K C4 = true)
    (kf4 : PySem.W.subIn K (.ref C4) (.ref C4) = some true)
    (kk0_4 : PySem.W.subIn K (.ref C0) (.ref C4) = some false)
    (kk3_4 : PySem.W.subIn K (.ref C3) (.ref C4) = some false)
    (kk4_4 : PySem.W.subIn K (.ref C4) (.ref C4) = some true)
    (kk1_4 : PySem.W.subIn K (.ref C1) (.ref C4) = some false)
    (kk2_4 : PySem.W.subIn K (.ref C2) (.ref C4) = some false)
    (eg10 : PySem.W.findIn K (.ref C10) "__getattribute__" = some (some (.builtin "BaseException.__getattribute__")))
    (ek10 : PySem.W.findIn K (.ref C10) "__getattr__" = some none)
    (es10 : PySem.W.subIn K (.ref C10) (.type "BaseException") = some true)
    (ed10 : PySem.W.hasDictIn K C10 = true)
    (ea10 : PySem.W.findIn K (.ref C10) "__class__" = some (some (.builtin "object.__class__")))
    (em10 : PySem.W.mroIn K C10 (.type "object") = some true)
    (ev10 : PySem.W.kitOne K (.ref C10) (.type "ValueError") = some true)
    (eg11 : PySem.W.findIn K (.ref C11) "__getattribute__" = some (some (.builtin "BaseException.__getattribute__")))
    (ek11 : PySem.W.findIn K (.ref C11) "__getattr__" = some none)
    (es11 : PySem.W.subIn K (.ref C11) (.type "BaseException") = some true)
    (ed11 : PySem.W.hasDictIn K C11 = true)
    (ea11 : PySem.W.findIn K (.ref C11) "__class__" = some (some (.builtin "object.__class__")))
    (em11 : PySem.W.mroIn K C11 (.type "object") = some true)
    (ev11 : PySem.W.kitOne K (.ref C11) (.type "ValueError") = some true)
    (eg12 : PySem.W.findIn K (.ref C12) "__getattribute__" = some (some (.builtin "BaseException.__getattribute__")))
    (ek12 : PySem.W.findIn K (.ref C12) "__getattr__" = some none)
    (es12 : PySem.W.subIn K (.ref C12) (.type "BaseException") = some true)
    (ed12 : PySem.W.hasDictIn K C12 = true)
    (ea12 : PySem.W.findIn K (.ref C12) "__class__" = some (some (.builtin "object.__class__")))
    (em12 : PySem.W.mroIn K C12 (.type "object") = some true)
    (ev12 : PySem.W.kitOne K (.ref C12) (.type "ValueError") = some true)
    (eg13 : PySem.W.findIn K (.ref C13) "__getattribute__" = some (some (.builtin "BaseException.__getattribute__")))
    (ek13 : PySem.W.findIn K (.ref C13) "__getattr__" = some none)
    (es13 : PySem.W.subIn K (.ref C13) (.type "BaseException") = some true)
    (ed13 : PySem.W.hasDictIn K C13 = true)
    (ea13 : PySem.W.findIn K (.ref C13) "__class__" = some (some (.builtin "object.__class__")))
    (em13 : PySem.W.mroIn K C13 (.type "object") = some true)
    (ev13 : PySem.W.kitOne K (.ref C13) (.type "ValueError") = some true)
    (eg14 : PySem.W.findIn K (.ref C14) "__getattribute__" = some (some (.builtin "BaseException.__getattribute__")))
    (ek14 : PySem.W.findIn K (.ref C14) "__getattr__" = some none)
    (es14 : PySem.W.subIn K (.ref C14) (.type "BaseException") = some true)
    (ed14 : PySem.W.hasDictIn K C14 = true)
    (ea14 : PySem.W.findIn K (.ref C14) "__class__" = some (some (.builtin "object.__class__")))
    (em14 : PySem.W.mroIn K C14 (.type "object") = some true)
    (ev14 : PySem.W.kitOne K (.ref C14) (.type "ValueError") = some true)
    (eg15 : PySem.W.findIn K (.ref C15) "__getattribute__" = some (some (.builtin "BaseException.__getattribute__")))
    (ek15 : PySem.W.findIn K (.ref C15) "__getattr__" = some none)
    (es15 : PySem.W.subIn K (.ref C15) (.type "BaseException") = some true)
    (ed15 : PySem.W.hasDictIn K C15 = true)
    (ea15 : PySem.W.findIn K (.ref C15) "__class__" = some (some (.builtin "object.__class__")))
    (em15 : PySem.W.mroIn K C15 (.type "object") = some true)
    (ev15 : PySem.W.kitOne K (.ref C15) (.type "ValueError") = some true)
    (eg16 : PySem.W.findIn K (.ref C16) "__getattribute__" = some (some (.builtin "BaseException.__getattribute__")))
    (ek16 : PySem.W.findIn K (.ref C16) "__getattr__" = some none)
    (es16 : PySem.W.subIn K (.ref C16) (.type "BaseException") = some true)
    (ed16 : PySem.W.hasDictIn K C16 = true)
    (ea16 : PySem.W.findIn K (.ref C16) "__class__" = some (some (.builtin "object.__class__")))
    (em16 : PySem.W.mroIn K C16 (.type "object") = some true)
    (ev16 : PySem.W.kitOne K (.ref C16) (.type "ValueError") = some true)
    (eg17 : PySem.W.findIn K (.ref C17) "__getattribute__" = some (some (.builtin "BaseException.__getattribute__")))
    (ek17 : PySem.W.findIn K (.ref C17) "__getattr__" = some none)
    (es17 : PySem.W.subIn K (.ref C17) (.type "BaseException") = some true)
    (ed17 : PySem.W.hasDictIn K C17 = true)
    (ea17 : PySem.W.findIn K (.ref C17) "__class__" = some (some (.builtin "object.__class__")))
    (em17 : PySem.W.mroIn K C17 (.type "object") = some true)
    (ev17 : PySem.W.kitOne K (.ref C17) (.type "ValueError") = some true)
    (eg18 : PySem.W.findIn K (.ref C18) "__getattribute__" = some (some (.builtin "BaseException.__getattribute__")))
    (ek18 : PySem.W.findIn K (.ref C18) "__getattr__" = some none)
    (es18 : PySem.W.subIn K (.ref C18) (.type "BaseException") = some true)
    (ed18 : PySem.W.hasDictIn K C18 = true)
    (ea18 : PySem.W.findIn K (.ref C18) "__class__" = some (some (.builtin "object.__class__")))
    (em18 : PySem.W.mroIn K C18 (.type "object") = some true)
    (ev18 : PySem.W.kitOne K (.ref C18) (.type "ValueError") = some true)
    (eg19 : PySem.W.findIn K (.ref C19) "__getattribute__" = some (some (.builtin "BaseException.__getattribute__")))
    (ek19 : PySem.W.findIn K (.ref C19) "__getattr__" = some none)
    (es19 : PySem.W.subIn K (.ref C19) (.type "BaseException") = some true)
    (ed19 : PySem.W.hasDictIn K C19 = true)
    (ea19 : PySem.W.findIn K (.ref C19) "__class__" = some (some (.builtin "object.__class__")))
    (em19 : PySem.W.mroIn K C19 (.type "object") = some true)
    (ev19 : PySem.W.kitOne K (.ref C19) (.type "ValueError") = some true)
    (eg20 : PySem.W.findIn K (.ref C20) "__getattribute__" = some (some (.builtin "BaseException.__getattribute__")))
    (ek20 : PySem.W.findIn K (.ref C20) "__getattr__" = some none)
    (es20 : PySem.W.subIn K (.ref C20) (.type "BaseException") = some true)
    (ed20 : PySem.W.hasDictIn K C20 = true)
    (ea20 : PySem.W.findIn K (.ref C20) "__class__" = some (some (.builtin "object.__class__")))
    (em20 : PySem.W.mroIn K C20 (.type "object") = some true)
    (ev20 : PySem.W.kitOne K (.ref C20) (.type "ValueError") = some true)
    (et11 : PySem.W.typeIn K (.ref C11) = some (.type "type"))
    (ef11 : PySem.W.subIn K (.ref C11) (.ref C11) = some true)
    (ee10_11 : PySem.W.subIn K (.ref C10) (.ref C11) = some false)
    (ee11_11 : PySem.W.subIn K (.ref C11) (.ref C11) = some true)
    (ee12_11 : PySem.W.subIn K (.ref C12) (.ref C11) = some false)
    (ee13_11 : PySem.W.subIn K (.ref C13) (.ref C11) = some false)
    (ee14_11 : PySem.W.subIn K (.ref C14) (.ref C11) = some false)
    (ee15_11 : PySem.W.subIn K (.ref C15) (.ref C11) = some false)
    (ee16_11 : PySem.W.subIn K (.ref C16) (.ref C11) = some false)
    (ee17_11 : PySem.W.subIn K (.ref C17) (.ref C11) = some false)
    (ee18_11 : PySem.W.subIn K (.ref C18) (.ref C11) = some false)
    (ee19_11 : PySem.W.subIn K (.ref C19) (.ref C11) = some false)
    (ee20_11 : PySem.W.subIn K (.ref C20) (.ref C11) = some false)
    (et12 : PySem.W.typeIn K (.ref C12) = some (.type "type"))
    (ef12 : PySem.W.subIn K (.ref C12) (.ref C12) = some true)
    (ee10_12 : PySem.W.subIn K (.ref C10) (.ref C12) = some false)
    (ee11_12 : PySem.W.subIn K (.ref C11) (.ref C12) = some false)
    (ee12_12 : PySem.W.subIn K (.ref C12) (.ref C12) = some true)
    (ee13_12 : PySem.W.subIn K (.ref C13) (.ref C12) = some false)
    (ee14_12 : PySem.W.subIn K (.ref C14) (.ref C12) = some false)
    (ee15_12 : PySem.W.subIn K (.ref C15) (.ref C12) = some false)
    (ee16_12 : PySem.W.subIn K (.ref C16) (.ref C12) = some false)
    (ee17_12 : PySem.W.subIn K (.ref C17) (.ref C12) = some false)
    (ee18_12 : PySem.W.subIn K (.ref C18) (.ref C12) = some false)
    (ee19_12 : PySem.W.subIn K (.ref C19) (.ref C12) = some false)
    (ee20_12 : PySem.W.subIn K (.ref C20) (.ref C12) = some false)
    (et13 : PySem.W.typeIn K (.ref C13) = some (.type "type"))
    (ef13 : PySem.W.subIn K (.ref C13) (.ref C13) = some true)
    (ee10_13 : PySem.W.subIn K (.ref C10) (.ref C13) = some false)
    (ee11_13 : PySem.W.subIn K (.ref C11) (.ref C13) = some false)
    (ee12_13 : PySem.W.subIn K (.ref C12) (.ref C13) = some false)
    (ee13_13 : PySem.W.subIn K (.ref C13) (.ref C13) = some true)
    (ee14_13 : PySem.W.subIn K (.ref C14) (.ref C13) = some false)
    (ee15_13 : PySem.W.subIn K (.ref C15) (.ref C13) = some false)
    (ee16_13 : PySem.W.subIn K (.ref C16) (.ref C13) = some false)
    (ee17_13 : PySem.W.subIn K (.ref C17) (.ref C13) = some false)
    (ee18_13 : PySem.W.subIn K (.ref C18) (.ref C13) = some false)
    (ee19_13 : PySem.W.subIn K (.ref C19) (.ref C13) = some false)
    (ee20_13 : PySem.W.subIn K (.ref C20) (.ref C13) = some false)
    (et14 : PySem.W.typeIn K (.ref C14) = some (.type "type"))
    (ef14 : PySem.W.subIn K (.ref C14) (.ref C14) = some true)
    (ee10_14 : PySem.W.subIn K (.ref C10) (.ref C14) = some false)
    (ee11_14 : PySem.W.subIn K (.ref C11) (.ref C14) = some false)
    (ee12_14 : PySem.W.subIn K (.ref C12) (.ref C14) = some false)
    (ee13_14 : PySem.W.subIn K (.ref C13) (.ref C14) = some false)
    (ee14_14 : PySem.W.subIn K (.ref C14) (.ref C14) = some true)
    (ee15_14 : PySem.W.subIn K (.ref C15) (.ref C14) = some false)
    (ee16_14 : PySem.W.subIn K (.ref C16) (.ref C14) = some false)
    (ee17_14 : PySem.W.subIn K (.ref C17) (.ref C14) = some false)
    (ee18_14 : PySem.W.subIn K (.ref C18) (.ref C14) = some false)
    (ee19_14 : PySem.W.subIn K (.ref C19) (.ref C14) = some false)
    (ee20_14 : PySem.W.subIn K (.ref C20) (.ref C14) = some false)
    (et15 : PySem.W.typeIn K (.ref C15) = some (.type "type"))
    (ef15 : PySem.W.subIn K (.ref C15) (.ref C15) = some true)
    (ee10_15 : PySem.W.subIn K (.ref C10) (.ref C15) = some false)
    (ee11_15 : PySem.W.subIn K (.ref C11) (.ref C15) = some false)
    (ee12_15 : PySem.W.subIn K (.ref C12) (.ref C15) = some false)
    (ee13_15 : PySem.W.subIn K (.ref C13) (.ref C15) = some false)
    (ee14_15 : PySem.W.subIn K (.ref C14) (.ref C15) = some false)
    (ee15_15 : PySem.W.subIn K (.ref C15) (.ref C15) = some true)
    (ee16_15 : PySem.W.subIn K (.ref C16) (.ref C15) = some false)
    (ee17_15 : PySem.W.subIn K (.ref C17) (.ref C15) = some false)
    (ee18_15 : PySem.W.subIn K (.ref C18) (.ref C15) = some false)
    (ee19_15 : PySem.W.subIn K (.ref C19) (.ref C15) = some false)
    (ee20_15 : PySem.W.subIn K (.ref C20) (.ref C15) = some false)
    (et16 : PySem.W.typeIn K (.ref C16) = some (.type "type"))
    (ef16 : PySem.W.subIn K (.ref C16) (.ref C16) = some true)
    (ee10_16 : PySem.W.subIn K (.ref C10) (.ref C16) = some false)
    (ee11_16 : PySem.W.subIn K (.ref C11) (.ref C16) = some false)
    (ee12_16 : PySem.W.subIn K (.ref C12) (.ref C16) = some false)
    (ee13_16 : PySem.W.subIn K (.ref C13) (.ref C16) = some false)
    (ee14_16 : PySem.W.subIn K (.ref C14) (.ref C16) = some false)
    (ee15_16 : PySem.W.subIn K (.ref C15) (.ref C16) = some false)
    (ee16_16 : PySem.W.subIn K (.ref C16) (.ref C16) = some true)
    (ee17_16 : PySem.W.subIn K (.ref C17) (.ref C16) = some false)
    (ee18_16 : PySem.W.subIn K (.ref C18) (.ref C16) = some false)
    (ee19_16 : PySem.W.subIn K (.ref C19) (.ref C16) = some false)
    (ee20_16 : PySem.W.subIn K (.ref C20) (.ref C16) = some false)
    (et17 : PySem.W.typeIn K (.ref C17) = some (.type "type"))
    (ef17 : PySem.W.subIn K (.ref C17) (.ref C17) = some true)
    (ee10_17 : PySem.W.subIn K (.ref C10) (.ref C17) = some false)
    (ee11_17 : PySem.W.subIn K (.ref C11) (.ref C17) = some false)
    (ee12_17 : PySem.W.subIn K (.ref C12) (.ref C17) = some false)
    (ee13_17 : PySem.W.subIn K (.ref C13) (.ref C17) = some false)
    (ee14_17 : PySem.W.subIn K (.ref C14) (.ref C17) = some false)
    (ee15_17 : PySem.W.subIn K (.ref C15) (.ref C17) = some false)
    (ee16_17 : PySem.W.subIn K (.ref C16) (.ref C17) = some false)
    (ee17_17 : PySem.W.subIn K (.ref C17) (.ref C17) = some true)
    (ee18_17 : PySem.W.subIn K (.ref C18) (.ref C17) = some false)
    (ee19_17 : PySem.W.subIn K (.ref C19) (.ref C17) = some false)
    (ee20_17 : PySem.W.subIn K (.ref C20) (.ref C17) = some false)
    (et18 : PySem.W.typeIn K (.ref C18) = some (.type "type"))
    (ef18 : PySem.W.subIn K (.ref C18) (.ref C18) = some true)
    (ee10_18 : PySem.W.subIn K (.ref C10) (.ref C18) = some false)
    (ee11_18 : PySem.W.subIn K (.ref C11) (.ref C18) = some false)
    (ee12_18 : PySem.W.subIn K (.ref C12) (.ref C18) = some false)
    (ee13_18 : PySem.W.subIn K (.ref C13) (.ref C18) = some false)
    (ee14_18 : PySem.W.subIn K (.ref C14) (.ref C18) = some false)
    (ee15_18 : PySem.W.subIn K (.ref C15) (.ref C18) = some false)
    (ee16_18 : PySem.W.subIn K (.ref C16) (.ref C18) = some false)
    (ee17_18 : PySem.W.subIn K (.ref C17) (.ref C18) = some false)
    (ee18_18 : PySem.W.subIn K (.ref C18) (.ref C18) = some true)
    (ee19_18 : PySem.W.subIn K (.ref C19) (.ref C18) = some false)
    (ee20_18 : PySem.W.subIn K (.ref C20) (.ref C18) = some false)
    (et19 : PySem.W.typeIn K (.ref C19) = some (.type "type"))
    (ef19 : PySem.W.subIn K (.ref C19) (.ref C19) = some true)
    (ee10_19 : PySem.W.subIn K (.ref C10) (.ref C19) = some false)
    (ee11_19 : PySem.W.subIn K (.ref C11) (.ref C19) = some false)
    (ee12_19 : PySem.W.subIn K (.ref C12) (.ref C19) = some false)
    (ee13_19 : PySem.W.subIn K (.ref C13) (.ref C19) = some false)
    (ee14_19 : PySem.W.subIn K (.ref C14) (.ref C19) = some false)
    (ee15_19 : PySem.W.subIn K (.ref C15) (.ref C19) = some false)
    (ee16_19 : PySem.W.subIn K (.ref C16) (.ref C19) = some false)
    (ee17_19 : PySem.W.subIn K (.ref C17) (.ref C19) = some false)
    (ee18_19 : PySem.W.subIn K (.ref C18) (.ref C19) = some false)
    (ee19_19 : PySem.W.subIn K (.ref C19) (.ref C19) = some true)
    (ee20_19 : PySem.W.subIn K (.ref C20) (.ref C19) = some false)
    (et20 : PySem.W.typeIn K (.ref C20) = some (.type "type"))
    (ef20 : PySem.W.subIn K (.ref C20) (.ref C20) = some true)
    (ee10_20 : PySem.W.subIn K (.ref C10) (.ref C20) = some false)
    (ee11_20 : PySem.W.subIn K (.ref C11) (.ref C20) = some false)
    (ee12_20 : PySem.W.subIn K (.ref C12) (.ref C20) = some false)
    (ee13_20 : PySem.W.subIn K (.ref C13) (.ref C20) = some false)
    (ee14_20 : PySem.W.subIn K (.ref C14) (.ref C20) = some false)
    (ee15_20 : PySem.W.subIn K (.ref C15) (.ref C20) = some false)
    (ee16_20 : PySem.W.subIn K (.ref C16) (.ref C20) = some false)
    (ee17_20 : PySem.W.subIn K (.ref C17) (.ref C20) = some false)
    (ee18_20 : PySem.W.subIn K (.ref C18) (.ref C20) = some false)
    (ee19_20 : PySem.W.subIn K (.ref C19) (.ref C20) = some false)
    (ee20_20 : PySem.W.subIn K (.ref C20) (.ref C20) = some true)
    (m0a3 : PySem.W.makesIn K C3 = true)
    (m0b3 : PySem.W.findIn K (.ref C3) "__init__" = some (some (.builtin "object.__init__")))
    (m0c3 : PySem.W.mroIn K C3 (.type "object") = some true)
    (m0d3 : PySem.W.keepIn K (.ref C3) = true)
    (wa_SIZES : PySem.W.nsIn K mainGlobals "SIZES" = some (some (.ref C30)))
    (wl_SIZES : K.lookup C30 = some ⟨.type "dict", none, .dict es_SIZES nn_SIZES, #[]⟩)
    (wk_SIZES : PySem.W.KeysLit w.params es_SIZES.toList)
    (wt_SIZES : TabOf es_SIZES.toList tab_SIZES)
    (wz_SIZES : (C30 == sysModules) = false)
    (lC0 : K.lookup cC0 = some ⟨eC0, ddC0, .fields vsC0, slC0⟩)
    (v11_0 : vsC0[11]? = some (.ref tP0))
    (hdC0 : PySem.W.codeHdIn K cC0 tP0 = true)
    (nP0 : K.lookup tP0 = none)
    (rc0 : ((recsOf q).any fun e => e.name == ("law" : Str)) = true) :
    LamX.LawAtS l w K (L2N.CX l.prog w) 8 63 "_law_script" mg fa h := by
  subst hPl
  have e := hfa.symm.trans (PySem.W.mg_of X G a34)
  cases e
  have F0 := fun_mk (st := s_is_whole) l0 c0 k0
  have b0 := F0.binds (ps := ["thing"]) fun _ _ _ _ _ _ us hl => match us, hl with | [_], _ => rfl
  have F1 := fun_mk (st := s_asked_bounds) l1 c1 k1
  have b1 := F1.binds (ps := ["marks", "window", "life"]) fun _ _ _ _ _ _ us hl => match us, hl with | [_, _, _], _ => rfl
  have F2 := fun_mk (st := s_Talk_init) l2 c2 k2
  have b2 := F2.binds (ps := ["self", "marks", "window", "life"]) fun _ _ _ _ _ _ us hl => match us, hl with | [_, _, _, _], _ => rfl
  have F3 := fun_mk (st := s_Talk_ask_porch) l3 c3 k3
  have b3 := F3.binds (ps := ["self", "porch"]) fun _ _ _ _ _ _ us hl => match us, hl with | [_, _], _ => rfl
  have F4 := fun_mk (st := s_Talk_say) l4 c4 k4
  have b4 := F4.binds (ps := ["self", "word"]) fun _ _ _ _ _ _ us hl => match us, hl with | [_, _], _ => rfl
  have F5 := fun_mk (st := s_Talk_put_on) l5 c5 k5
  have b5 := F5.binds (ps := ["self", "porch", "letter"]) fun _ _ _ _ _ _ us hl => match us, hl with | [_, _, _], _ => rfl
  have F6 := fun_mk (st := s_Talk_post) l6 c6 k6
  have b6 := F6.binds (ps := ["self", "porch", "number"]) fun _ _ _ _ _ _ us hl => match us, hl with | [_, _, _], _ => rfl
  have F7 := fun_mk (st := s_Talk_answer) l7 c7 k7
  have b7 := F7.binds (ps := ["self", "porch"]) fun _ _ _ _ _ _ us hl => match us, hl with | [_, _], _ => rfl
  have F8 := fun_mk (st := s_Talk_take_off) l8 c8 k8
  have b8 := F8.binds (ps := ["self", "porch", "place"]) fun _ _ _ _ _ _ us hl => match us, hl with | [_, _, _], _ => rfl
  have F9 := fun_mk (st := s_Talk_bring) l9 c9 k9
  have b9 := F9.binds (ps := ["self", "porch", "place"]) fun _ _ _ _ _ _ us hl => match us, hl with | [_, _, _], _ => rfl
  have F10 := fun_mk (st := s_Talk_lose) l10 c10 k10
  have b10 := F10.binds (ps := ["self", "porch", "place"]) fun _ _ _ _ _ _ us hl => match us, hl with | [_, _, _], _ => rfl
  have F11 := fun_mk (st := s_Talk_fall) l11 c11 k11
  have b11 := F11.binds (ps := ["self", "porch"]) fun _ _ _ _ _ _ us hl => match us, hl with | [_, _], _ => rfl
  have F12 := fun_mk (st := s_Talk_rise) l12 c12 k12
  have b12 := F12.binds (ps := ["self", "porch"]) fun _ _ _ _ _ _ us hl => match us, hl with | [_, _], _ => rfl
  have F13 := fun_mk (st := s_Talk_tick) l13 c13 k13
  have b13 := F13.binds (ps := ["self"]) fun _ _ _ _ _ _ us hl => match us, hl with | [_], _ => rfl
  have F14 := fun_mk (st := s_Talk_words_heard) l14 c14 k14
  have b14 := F14.binds (ps := ["self"]) fun _ _ _ _ _ _ us hl => match us, hl with | [_], _ => rfl
  have F15 := fun_mk (st := s_Talk_words_said) l15 c15 k15
  have b15 := F15.binds (ps := ["self"]) fun _ _ _ _ _ _ us hl => match us, hl with | [_], _ => rfl
  have F16 := fun_mk (st := s_Talk_road) l16 c16 k16
  have b16 := F16.binds (ps := ["self", "porch"]) fun _ _ _ _ _ _ us hl => match us, hl with | [_, _], _ => rfl
  have F17 := fun_mk (st := s_do_deed) l17 c17 k17
  have b17 := F17.binds (ps := ["talk", "deed"]) fun _ _ _ _ _ _ us hl => match us, hl with | [_, _], _ => rfl
  have F18 := fun_mk (st := s_play) l18 c18 k18
  have b18 := F18.binds (ps := ["marks", "window", "life", "story"]) fun _ _ _ _ _ _ us hl => match us, hl with | [_, _, _, _], _ => rfl
  have F19 := fun_mk (st := s_Sure_shows) l19 c19 k19
  have b19 := F19.binds (ps := ["self", "marks", "window", "life"]) fun _ _ _ _ _ _ us hl => match us, hl with | [_, _, _, _], _ => rfl
  have F20 := fun_mk (st := s_Fooled_init) l20 c20 k20
  have b20 := F20.binds (ps := ["self", "story"]) fun _ _ _ _ _ _ us hl => match us, hl with | [_, _], _ => rfl
  have F21 := fun_mk (st := s_Fooled_shows) l21 c21 k21
  have b21 := F21.binds (ps := ["self", "marks", "window", "life"]) fun _ _ _ _ _ _ us hl => match us, hl with | [_, _, _, _], _ => rfl
  have F22 := fun_mk (st := s_Done_init) l22 c22 k22
  have b22 := F22.binds (ps := ["self", "words"]) fun _ _ _ _ _ _ us hl => match us, hl with | [_, _], _ => rfl
  have F23 := fun_mk (st := s_Done_shows) l23 c23 k23
  have b23 := F23.binds (ps := ["self", "marks", "window", "life", "story"]) fun _ _ _ _ _ _ us hl => match us, hl with | [_, _, _, _, _], _ => rfl
  have F24 := fun_mk (st := s_Halt_init) l24 c24 k24
  have b24 := F24.binds (ps := ["self", "place"]) fun _ _ _ _ _ _ us hl => match us, hl with | [_, _], _ => rfl
  have F25 := fun_mk (st := s_Halt_shows) l25 c25 k25
  have b25 := F25.binds (ps := ["self", "marks", "window", "life", "story"]) fun _ _ _ _ _ _ us hl => match us, hl with | [_, _, _, _, _], _ => rfl
  have F26 := fun_mk (st := s_is_deed) l26 c26 k26
  have b26 := F26.binds (ps := ["thing"]) fun _ _ _ _ _ _ us hl => match us, hl with | [_], _ => rfl
  have F27 := fun_mk (st := s_told) l27 c27 k27
  have b27 := F27.binds (ps := ["marks", "window", "life", "story"]) fun _ _ _ _ _ _ us hl => match us, hl with | [_, _, _, _], _ => rfl
  have F28 := fun_mk (st := s_heard_one) l28 c28 k28
  have b28 := F28.binds (ps := ["number"]) fun _ _ _ _ _ _ us hl => match us, hl with | [_], _ => rfl
  have F29 := fun_mk (st := s_answered) l29 c29 k29
  have b29 := F29.binds (ps := []) fun _ _ _ _ _ _ us hl => match us, hl with | [], _ => rfl
  have F30 := fun_mk (st := s_story_of) l30 c30 k30
  have b30 := F30.binds (ps := ["marks", "window", "life"]) fun _ _ _ _ _ _ us hl => match us, hl with | [_, _, _], _ => rfl
  have F31 := fun_mk (st := s_judged) l31 c31 k31
  have b31 := F31.binds (ps := ["marks", "window", "life"]) fun _ _ _ _ _ _ us hl => match us, hl with | [_, _, _], _ => rfl
  have F32 := fun_mk (st := s__law_refused) l32 c32 k32
  have b32 := F32.binds (ps := ["_law_ask", "_law_thing", "_law_due"]) fun _ _ _ _ _ _ us hl => match us, hl with | [_, _, _], _ => rfl
  have F33 := fun_mk (st := s__law_great) l33 c33 k33
  have b33 := F33.binds (ps := ["_law_far"]) fun _ _ _ _ _ _ us hl => match us, hl with | [_], _ => rfl
  have F34 := fun_mk (st := s_law) l34 c34 k34
  have b34 := F34.binds (ps := ["_law_script"]) fun _ _ _ _ _ _ us hl => match us, hl with | [_], _ => rfl
  have catAll : ∀ c b, catE c = some b → PySem.W.exmOne K (.ref (pick [C0, C1, C2, C3, C4, C0, C0, C0, C0, C0, C10, C11, C12, C13, C14, C15, C16, C17, C18, C19, C20, C0, C0, C0, C0, C0, C0, C0, C0, C0, C30, C0, C0, C0, C0, C0, C0, C0, C0, C0, tP0, C0, C0, C0, C0, C0, C0, C0, C0, C0, cC0] C0 c)) (.ref (pick [C0, C1, C2, C3, C4, C0, C0, C0, C0, C0, C10, C11, C12, C13, C14, C15, C16, C17, C18, C19, C20, C0, C0, C0, C0, C0, C0, C0, C0, C0, C30, C0, C0, C0, C0, C0, C0, C0, C0, C0, tP0, C0, C0, C0, C0, C0, C0, C0, C0, C0, cC0] C0 10)) = some b := by
    intro c b hcb
    unfold catE at hcb
    split at hcb
    · rename_i hc
      cases hcb
      rcases (show c = 10 ∨ c = 11 ∨ c = 12 ∨ c = 13 ∨ c = 14 ∨ c = 15 ∨ c = 16 ∨ c = 17 ∨ c = 18 ∨ c = 19 ∨ c = 20 by omega) with rfl | rfl | rfl | rfl | rfl | rfl | rfl | rfl | rfl | rfl | rfl
      · exact PySem.W.exm_ref yb10 yd10 yt10 ys10
      · exact PySem.W.exm_ref yb10 yd10 yt10 ys11
      · exact PySem.W.exm_ref yb10 yd10 yt10 ys12
      · exact PySem.W.exm_ref yb10 yd10 yt10 ys13
      · exact PySem.W.exm_ref yb10 yd10 yt10 ys14
      · exact PySem.W.exm_ref yb10 yd10 yt10 ys15
      · exact PySem.W.exm_ref yb10 yd10 yt10 ys16
      · exact PySem.W.exm_ref yb10 yd10 yt10 ys17
      · exact PySem.W.exm_ref yb10 yd10 yt10 ys18
      · exact PySem.W.exm_ref yb10 yd10 yt10 ys19
      · exact PySem.W.exm_ref yb10 yd10 yt10 ys20
    · cases hcb
  have isxAll : ∀ c, catE c = some true → ExcC K (pick [C0, C1, C2, C3, C4, C0, C0, C0, C0, C0, C10, C11, C12, C13, C14, C15, C16, C17, C18, C19, C20, C0, C0, C0, C0, C0, C0, C0, C0, C0, C30, C0, C0, C0, C0, C0, C0, C0, C0, C0, tP0, C0, C0, C0, C0, C0, C0, C0, C0, C0, cC0] C0 c) := by
    intro c hcb
    unfold catE at hcb
    split at hcb
    · rename_i hc
      rcases (show c = 10 ∨ c = 11 ∨ c = 12 ∨ c = 13 ∨ c = 14 ∨ c = 15 ∨ c = 16 ∨ c = 17 ∨ c = 18 ∨ c = 19 ∨ c = 20 by omega) with rfl | rfl | rfl | rfl | rfl | rfl | rfl | rfl | rfl | rfl | rfl
      · exact ⟨eg10, ek10, es10, ed10, ea10, kn, ktk, em10⟩
      · exact ⟨eg11, ek11, es11, ed11, ea11, kn, ktk, em11⟩
      · exact ⟨eg12, ek12, es12, ed12, ea12, kn, ktk, em12⟩
      · exact ⟨eg13, ek13, es13, ed13, ea13, kn, ktk, em13⟩
      · exact ⟨eg14, ek14, es14, ed14, ea14, kn, ktk, em14⟩
      · exact ⟨eg15, ek15, es15, ed15, ea15, kn, ktk, em15⟩
      · exact ⟨eg16, ek16, es16, ed16, ea16, kn, ktk, em16⟩
      · exact ⟨eg17, ek17, es17, ed17, ea17, kn, ktk, em17⟩
      · exact ⟨eg18, ek18, es18, ed18, ea18, kn, ktk, em18⟩
      · exact ⟨eg19, ek19, es19, ed19, ea19, kn, ktk, em19⟩
      · exact ⟨eg20, ek20, es20, ed20, ea20, kn, ktk, em20⟩
    · cases hcb
  have isyAll11 : ∀ c, catE c = some true → PySem.W.kitOne K (.ref (pick [C0, C1, C2, C3, C4, C0, C0, C0, C0, C0, C10, C11, C12, C13, C14, C15, C16, C17, C18, C19, C20, C0, C0, C0, C0, C0, C0, C0, C0, C0, C30, C0, C0, C0, C0, C0, C0, C0, C0, C0, tP0, C0, C0, C0, C0, C0, C0, C0, C0, C0, cC0] C0 c)) (.ref (pick [C0, C1, C2, C3, C4, C0, C0, C0, C0, C0, C10, C11, C12, C13, C14, C15, C16, C17, C18, C19, C20, C0, C0, C0, C0, C0, C0, C0, C0, C0, C30, C0, C0, C0, C0, C0, C0, C0, C0, C0, tP0, C0, C0, C0, C0, C0, C0, C0, C0, C0, cC0] C0 11)) = some (decide (c = 11)) := by
    intro c hcb
    unfold catE at hcb
    split at hcb
    · rename_i hc
      rcases (show c = 10 ∨ c = 11 ∨ c = 12 ∨ c = 13 ∨ c = 14 ∨ c = 15 ∨ c = 16 ∨ c = 17 ∨ c = 18 ∨ c = 19 ∨ c = 20 by omega) with rfl | rfl | rfl | rfl | rfl | rfl | rfl | rfl | rfl | rfl | rfl
      · exact kit_ref ed11 et11 ef11 ee10_11
      · exact kit_ref ed11 et11 ef11 ee11_11
      · exact kit_ref ed11 et11 ef11 ee12_11
      · exact kit_ref ed11 et11 ef11 ee13_11
      · exact kit_ref ed11 et11 ef11 ee14_11
      · exact kit_ref ed11 et11 ef11 ee15_11
      · exact kit_ref ed11 et11 ef11 ee16_11
      · exact kit_ref ed11 et11 ef11 ee17_11
      · exact kit_ref ed11 et11 ef11 ee18_11
      · exact kit_ref ed11 et11 ef11 ee19_11
      · exact kit_ref ed11 et11 ef11 ee20_11
    · cases hcb
  have isyAll12 : ∀ c, catE c = some true → PySem.W.kitOne K (.ref (pick [C0, C1, C2, C3, C4, C0, C0, C0, C0, C0, C10, C11, C12, C13, C14, C15, C16, C17, C18, C19, C20, C0, C0, C0, C0, C0, C0, C0, C0, C0, C30, C0, C0, C0, C0, C0, C0, C0, C0, C0, tP0, C0, C0, C0, C0, C0, C0, C0, C0, C0, cC0] C0 c)) (.ref (pick [C0, C1, C2, C3, C4, C0, C0, C0, C0, C0, C10, C11, C12, C13, C14, C15, C16, C17, C18, C19, C20, C0, C0, C0, C0, C0, C0, C0, C0, C0, C30, C0, C0, C0, C0, C0, C0, C0, C0, C0, tP0, C0, C0, C0, C0, C0, C0, C0, C0, C0, cC0] C0 12)) = some (decide (c = 12)) := by
    intro c hcb
    unfold catE at hcb
    split at hcb
    · rename_i hc
      rcases (show c = 10 ∨ c = 11 ∨ c = 12 ∨ c = 13 ∨ c = 14 ∨ c = 15 ∨ c = 16 ∨ c = 17 ∨ c = 18 ∨ c = 19 ∨ c = 20 by omega) with rfl | rfl | rfl | rfl | rfl | rfl | rfl | rfl | rfl | rfl | rfl
      · exact kit_ref ed12 et12 ef12 ee10_12
      · exact kit_ref ed12 et12 ef12 ee11_12
      · exact kit_ref ed12 et12 ef12 ee12_12
      · exact kit_ref ed12 et12 ef12 ee13_12
      · exact kit_ref ed12 et12 ef12 ee14_12
      · exact kit_ref ed12 et12 ef12 ee15_12
      · exact kit_ref ed12 et12 ef12 ee16_12
      · exact kit_ref ed12 et12 ef12 ee17_12
      · exact kit_ref ed12 et12 ef12 ee18_12
      · exact kit_ref ed12 et12 ef12 ee19_12
      · exact kit_ref ed12 et12 ef12 ee20_12
    · cases hcb
  have isyAll13 : ∀ c, catE c = some true → PySem.W.kitOne K (.ref (pick [C0, C1, C2, C3, C4, C0, C0, C0, C0, C0, C10, C11, C12, C13, C14, C15, C16, C17, C18, C19, C20, C0, C0, C0, C0, C0, C0, C0, C0, C0, C30, C0, C0, C0, C0, C0, C0, C0, C0, C0, tP0, C0, C0, C0, C0, C0, C0, C0, C0, C0, cC0] C0 c)) (.ref (pick [C0, C1, C2, C3, C4, C0, C0, C0, C0, C0, C10, C11, C12, C13, C14, C15, C16, C17, C18, C19, C20, C0, C0, C0, C0, C0, C0, C0, C0, C0, C30, C0, C0, C0, C0, C0, C0, C0, C0, C0, tP0, C0, C0, C0, C0, C0, C0, C0, C0, C0, cC0] C0 13)) = some (decide (c = 13)) := by
    intro c hcb
    unfold catE at hcb
    split at hcb
    · rename_i hc
      rcases (show c = 10 ∨ c = 11 ∨ c = 12 ∨ c = 13 ∨ c = 14 ∨ c = 15 ∨ c = 16 ∨ c = 17 ∨ c = 18 ∨ c = 19 ∨ c = 20 by omega) with rfl | rfl | rfl | rfl | rfl | rfl | rfl | rfl | rfl | rfl | rfl
      · exact kit_ref ed13 et13 ef13 ee10_13
      · exact kit_ref ed13 et13 ef13 ee11_13
      · exact kit_ref ed13 et13 ef13 ee12_13
      · exact kit_ref ed13 et13 ef13 ee13_13
      · exact kit_ref ed13 et13 ef13 ee14_13
      · exact kit_ref ed13 et13 ef13 ee15_13
      · exact kit_ref ed13 et13 ef13 ee16_13
      · exact kit_ref ed13 et13 ef13 ee17_13
      · exact kit_ref ed13 et13 ef13 ee18_13
      · exact kit_ref ed13 et13 ef13 ee19_13
      · exact kit_ref ed13 et13 ef13 ee20_13
    · cases hcb
  have isyAll14 : ∀ c, catE c = some true → PySem.W.kitOne K (.ref (pick [C0, C1, C2, C3, C4, C0, C0, C0, C0, C0, C10, C11, C12, C13, C14, C15, C16, C17, C18, C19, C20, C0, C0, C0, C0, C0, C0, C0, C0, C0, C30, C0, C0, C0, C0, C0, C0, C0, C0, C0, tP0, C0, C0, C0, C0, C0, C0, C0, C0, C0, cC0] C0 c)) (.ref (pick [C0, C1, C2, C3, C4, C0, C0, C0, C0, C0, C10, C11, C12, C13, C14, C15, C16, C17, C18, C19, C20, C0, C0, C0, C0, C0, C0, C0, C0, C0, C30, C0, C0, C0, C0, C0, C0, C0, C0, C0, tP0, C0, C0, C0, C0, C0, C0, C0, C0, C0, cC0] C0 14)) = some (decide (c = 14)) := by
    intro c hcb
    unfold catE at hcb
    split at hcb
    · rename_i hc
      rcases (show c = 10 ∨ c = 11 ∨ c = 12 ∨ c = 13 ∨ c = 14 ∨ c = 15 ∨ c = 16 ∨ c = 17 ∨ c = 18 ∨ c = 19 ∨ c = 20 by omega) with rfl | rfl | rfl | rfl | rfl | rfl | rfl | rfl | rfl | rfl | rfl
      · exact kit_ref ed14 et14 ef14 ee10_14
      · exact kit_ref ed14 et14 ef14 ee11_14
      · exact kit_ref ed14 et14 ef14 ee12_14
      · exact kit_ref ed14 et14 ef14 ee13_14
      · exact kit_ref ed14 et14 ef14 ee14_14
      · exact kit_ref ed14 et14 ef14 ee15_14
      · exact kit_ref ed14 et14 ef14 ee16_14
      · exact kit_ref ed14 et14 ef14 ee17_14
      · exact kit_ref ed14 et14 ef14 ee18_14
      · exact kit_ref ed14 et14 ef14 ee19_14
      · exact kit_ref ed14 et14 ef14 ee20_14
    · cases hcb
  have isyAll15 : ∀ c, catE c = some true → PySem.W.kitOne K (.ref (pick [C0, C1, C2, C3, C4, C0, C0, C0, C0, C0, C10, C11, C12, C13, C14, C15, C16, C17, C18, C19, C20, C0, C0, C0, C0, C0, C0, C0, C0, C0, C30, C0, C0, C0, C0, C0, C0, C0, C0, C0, tP0, C0, C0, C0, C0, C0, C0, C0, C0, C0, cC0] C0 c)) (.ref (pick [C0, C1, C2, C3, C4, C0, C0, C0, C0, C0, C10, C11, C12, C13, C14, C15, C16, C17, C18, C19, C20, C0, C0, C0, C0, C0, C0, C0, C0, C0, C30, C0, C0, C0, C0, C0, C0, C0, C0, C0, tP0, C0, C0, C0, C0, C0, C0, C0, C0, C0, cC0] C0 15)) = some (decide (c = 15)) := by
    intro c hcb
    unfold catE at hcb
    split at hcb
    · rename_i hc
      rcases (show c = 10 ∨ c = 11 ∨ c = 12 ∨ c = 13 ∨ c = 14 ∨ c = 15 ∨ c = 16 ∨ c = 17 ∨ c = 18 ∨ c = 19 ∨ c = 20 by omega) with rfl | rfl | rfl | rfl | rfl | rfl | rfl | rfl | rfl | rfl | rfl
      · exact kit_ref ed15 et15 ef15 ee10_15
      · exact kit_ref ed15 et15 ef15 ee11_15
      · exact kit_ref ed15 et15 ef15 ee12_15
      · exact kit_ref ed15 et15 ef15 ee13_15
      · exact kit_ref ed15 et15 ef15 ee14_15
      · exact kit_ref ed15 et15 ef15 ee15_15
      · exact kit_ref ed15 et15 ef15 ee16_15
      · exact kit_ref ed15 et15 ef15 ee17_15
      · exact kit_ref ed15 et15 ef15 ee18_15
      · exact kit_ref ed15 et15 ef15 ee19_15
      · exact kit_ref ed15 et15 ef15 ee20_15
    · cases hcb
  have isyAll16 : ∀ c, catE c = some true → PySem.W.kitOne K (.ref (pick [C0, C1, C2, C3, C4, C0, C0, C0, C0, C0, C10, C11, C12, C13, C14, C15, C16, C17, C18, C19, C20, C0, C0, C0, C0, C0, C0, C0, C0, C0, C30, C0, C0, C0, C0, C0, C0, C0, C0, C0, tP0, C0, C0, C0, C0, C0, C0, C0, C0, C0, cC0] C0 c)) (.ref (pick [C0, C1, C2, C3, C4, C0, C0, C0, C0, C0, C10, C11, C12, C13, C14, C15, C16, C17, C18, C19, C20, C0, C0, C0, C0, C0, C0, C0, C0, C0, C30, C0, C0, C0, C0, C0, C0, C0, C0, C0, tP0, C0, C0, C0, C0, C0, C0, C0, C0, C0, cC0] C0 16)) = some (decide (c = 16)) := by
    intro c hcb
    unfold catE at hcb
    split at hcb
    · rename_i hc
      rcases (show c = 10 ∨ c = 11 ∨ c = 12 ∨ c = 13 ∨ c = 14 ∨ c = 15 ∨ c = 16 ∨ c = 17 ∨ c = 18 ∨ c = 19 ∨ c = 20 by omega) with rfl | rfl | rfl | rfl | rfl | rfl | rfl | rfl | rfl | rfl | rfl
      · exact kit_ref ed16 et16 ef16 ee10_16
      · exact kit_ref ed16 et16 ef16 ee11_16
      · exact kit_ref ed16 et16 ef16 ee12_16
      · exact kit_ref ed16 et16 ef16 ee13_16
      · exact kit_ref ed16 et16 ef16 ee14_16
      · exact kit_ref ed16 et16 ef16 ee15_16
      · exact kit_ref ed16 et16 ef16 ee16_16
      · exact kit_ref ed16 et16 ef16 ee17_16
      · exact kit_ref ed16 et16 ef16 ee18_16
      · exact kit_ref ed16 et16 ef16 ee19_16
      · exact kit_ref ed16 et16 ef16 ee20_16
    · cases hcb
  have isyAll17 : ∀ c, catE c = some true → PySem.W.kitOne K (.ref (pick [C0, C1, C2, C3, C4, C0, C0, C0, C0, C0, C10, C11, C12, C13, C14, C15, C16, C17, C18, C19, C20, C0, C0, C0, C0, C0, C0, C0, C0, C0, C30, C0, C0, C0, C0, C0, C0, C0, C0, C0, tP0, C0, C0, C0, C0, C0, C0, C0, C0, C0, cC0] C0 c)) (.ref (pick [C0, C1, C2, C3, C4, C0, C0, C0, C0, C0, C10, C11, C12, C13, C14, C15, C16, C17, C18, C19, C20, C0, C0, C0, C0, C0, C0, C0, C0, C0, C30, C0, C0, C0, C0, C0, C0, C0, C0, C0, tP0, C0, C0, C0, C0, C0, C0, C0, C0, C0, cC0] C0 17)) = some (decide (c = 17)) := by
    intro c hcb
    unfold catE at hcb
    split at hcb
    · rename_i hc
      rcases (show c = 10 ∨ c = 11 ∨ c = 12 ∨ c = 13 ∨ c = 14 ∨ c = 15 ∨ c = 16 ∨ c = 17 ∨ c = 18 ∨ c = 19 ∨ c = 20 by omega) with rfl | rfl | rfl | rfl | rfl | rfl | rfl | rfl | rfl | rfl | rfl
      · exact kit_ref ed17 et17 ef17 ee10_17
      · exact kit_ref ed17 et17 ef17 ee11_17
      · exact kit_ref ed17 et17 ef17 ee12_17
      · exact kit_ref ed17 et17 ef17 ee13_17
      · exact kit_ref ed17 et17 ef17 ee14_17
      · exact kit_ref ed17 et17 ef17 ee15_17
      · exact kit_ref ed17 et17 ef17 ee16_17
      · exact kit_ref ed17 et17 ef17 ee17_17
      · exact kit_ref ed17 et17 ef17 ee18_17
      · exact kit_ref ed17 et17 ef17 ee19_17
      · exact kit_ref ed17 et17 ef17 ee20_17
    · cases hcb
  have isyAll18 : ∀ c, catE c = some true → PySem.W.kitOne K (.ref (pick [C0, C1, C2, C3, C4, C0, C0, C0, C0, C0, C10, C11, C12, C13, C14, C15, C16, C17, C18, C19, C20, C0, C0, C0, C0, C0, C0, C0, C0, C0, C30, C0, C0, C0, C0, C0, C0, C0, C0, C0, tP0, C0, C0, C0, C0, C0, C0, C0, C0, C0, cC0] C0 c)) (.ref (pick [C0, C1, C2, C3, C4, C0, C0, C0, C0, C0, C10, C11, C12, C13, C14, C15, C16, C17, C18, C19, C20, C0, C0, C0, C0, C0, C0, C0, C0, C0, C30, C0, C0, C0, C0, C0, C0, C0, C0, C0, tP0, C0, C0, C0, C0, C0, C0, C0, C0, C0, cC0] C0 18)) = some (decide (c = 18)) := by
    intro c hcb
    unfold catE at hcb
    split at hcb
    · rename_i hc
      rcases (show c = 10 ∨ c = 11 ∨ c = 12 ∨ c = 13 ∨ c = 14 ∨ c = 15 ∨ c = 16 ∨ c = 17 ∨ c = 18 ∨ c = 19 ∨ c = 20 by omega) with rfl | rfl | rfl | rfl | rfl | rfl | rfl | rfl | rfl | rfl | rfl
      · exact kit_ref ed18 et18 ef18 ee10_18
      · exact kit_ref ed18 et18 ef18 ee11_18
      · exact kit_ref ed18 et18 ef18 ee12_18
      · exact kit_ref ed18 et18 ef18 ee13_18
      · exact kit_ref ed18 et18 ef18 ee14_18
      · exact kit_ref ed18 et18 ef18 ee15_18
      · exact kit_ref ed18 et18 ef18 ee16_18
      · exact kit_ref ed18 et18 ef18 ee17_18
      · exact kit_ref ed18 et18 ef18 ee18_18
      · exact kit_ref ed18 et18 ef18 ee19_18
      · exact kit_ref ed18 et18 ef18 ee20_18
    · cases hcb
  have isyAll19 : ∀ c, catE c = some true → PySem.W.kitOne K (.ref (pick [C0, C1, C2, C3, C4, C0, C0, C0, C0, C0, C10, C11, C12, C13, C14, C15, C16, C17, C18, C19, C20, C0, C0, C0, C0, C0, C0, C0, C0, C0, C30, C0, C0, C0, C0, C0, C0, C0, C0, C0, tP0, C0, C0, C0, C0, C0, C0, C0, C0, C0, cC0] C0 c)) (.ref (pick [C0, C1, C2, C3, C4, C0, C0, C0, C0, C0, C10, C11, C12, C13, C14, C15, C16, C17, C18, C19, C20, C0, C0, C0, C0, C0, C0, C0, C0, C0, C30, C0, C0, C0, C0, C0, C0, C0, C0, C0, tP0, C0, C0, C0, C0, C0, C0, C0, C0, C0, cC0] C0 19)) = some (decide (c = 19)) := by
    intro c hcb
    unfold catE at hcb
    split at hcb
    · rename_i hc
      rcases (show c = 10 ∨ c = 11 ∨ c = 12 ∨ c = 13 ∨ c = 14 ∨ c = 15 ∨ c = 16 ∨ c = 17 ∨ c = 18 ∨ c = 19 ∨ c = 20 by omega) with rfl | rfl | rfl | rfl | rfl | rfl | rfl | rfl | rfl | rfl | rfl
      · exact kit_ref ed19 et19 ef19 ee10_19
      · exact kit_ref ed19 et19 ef19 ee11_19
      · exact kit_ref ed19 et19 ef19 ee12_19
      · exact kit_ref ed19 et19 ef19 ee13_19
      · exact kit_ref ed19 et19 ef19 ee14_19
      · exact kit_ref ed19 et19 ef19 ee15_19
      · exact kit_ref ed19 et19 ef19 ee16_19
      · exact kit_ref ed19 et19 ef19 ee17_19
      · exact kit_ref ed19 et19 ef19 ee18_19
      · exact kit_ref ed19 et19 ef19 ee19_19
      · exact kit_ref ed19 et19 ef19 ee20_19
    · cases hcb
  have isyAll20 : ∀ c, catE c = some true → PySem.W.kitOne K (.ref (pick [C0, C1, C2, C3, C4, C0, C0, C0, C0, C0, C10, C11, C12, C13, C14, C15, C16, C17, C18, C19, C20, C0, C0, C0, C0, C0, C0, C0, C0, C0, C30, C0, C0, C0, C0, C0, C0, C0, C0, C0, tP0, C0, C0, C0, C0, C0, C0, C0, C0, C0, cC0] C0 c)) (.ref (pick [C0, C1, C2, C3, C4, C0, C0, C0, C0, C0, C10, C11, C12, C13, C14, C15, C16, C17, C18, C19, C20, C0, C0, C0, C0, C0, C0, C0, C0, C0, C30, C0, C0, C0, C0, C0, C0, C0, C0, C0, tP0, C0, C0, C0, C0, C0, C0, C0, C0, C0, cC0] C0 20)) = some (decide (c = 20)) := by
    intro c hcb
    unfold catE at hcb
    split at hcb
    · rename_i hc
      rcases (show c = 10 ∨ c = 11 ∨ c = 12 ∨ c = 13 ∨ c = 14 ∨ c = 15 ∨ c = 16 ∨ c = 17 ∨ c = 18 ∨ c = 19 ∨ c = 20 by omega) with rfl | rfl | rfl | rfl | rfl | rfl | rfl | rfl | rfl | rfl | rfl
      · exact kit_ref ed20 et20 ef20 ee10_20
      · exact kit_ref ed20 et20 ef20 ee11_20
      · exact kit_ref ed20 et20 ef20 ee12_20
      · exact kit_ref ed20 et20 ef20 ee13_20
      · exact kit_ref ed20 et20 ef20 ee14_20
      · exact kit_ref ed20 et20 ef20 ee15_20
      · exact kit_ref ed20 et20 ef20 ee16_20
      · exact kit_ref ed20 et20 ef20 ee17_20
      · exact kit_ref ed20 et20 ef20 ee18_20
      · exact kit_ref ed20 et20 ef20 ee19_20
      · exact kit_ref ed20 et20 ef20 ee20_20
    · cases hcb
  have isvAll : ∀ c, catE c = some true → PySem.W.kitOne K (.ref (pick [C0, C1, C2, C3, C4, C0, C0, C0, C0, C0, C10, C11, C12, C13, C14, C15, C16, C17, C18, C19, C20, C0, C0, C0, C0, C0, C0, C0, C0, C0, C30, C0, C0, C0, C0, C0, C0, C0, C0, C0, tP0, C0, C0, C0, C0, C0, C0, C0, C0, C0, cC0] C0 c)) (.type "ValueError") = some true := by
    intro c hcb
    unfold catE at hcb
    split at hcb
    · rename_i hc
      rcases (show c = 10 ∨ c = 11 ∨ c = 12 ∨ c = 13 ∨ c = 14 ∨ c = 15 ∨ c = 16 ∨ c = 17 ∨ c = 18 ∨ c = 19 ∨ c = 20 by omega) with rfl | rfl | rfl | rfl | rfl | rfl | rfl | rfl | rfl | rfl | rfl
      · exact ev10
      · exact ev11
      · exact ev12
      · exact ev13
      · exact ev14
      · exact ev15
      · exact ev16
      · exact ev17
      · exact ev18
      · exact ev19
      · exact ev20
    · cases hcb
  have iscAll1 : ∀ c b, subOf 1 c = some b → InsOk K (pick [C0, C1, C2, C3, C4, C0, C0, C0, C0, C0, C10, C11, C12, C13, C14, C15, C16, C17, C18, C19, C20, C0, C0, C0, C0, C0, C0, C0, C0, C0, C30, C0, C0, C0, C0, C0, C0, C0, C0, C0, tP0, C0, C0, C0, C0, C0, C0, C0, C0, C0, cC0] C0 c) ∧ PySem.W.kitOne K (.ref (pick [C0, C1, C2, C3, C4, C0, C0, C0, C0, C0, C10, C11, C12, C13, C14, C15, C16, C17, C18, C19, C20, C0, C0, C0, C0, C0, C0, C0, C0, C0, C30, C0, C0, C0, C0, C0, C0, C0, C0, C0, tP0, C0, C0, C0, C0, C0, C0, C0, C0, C0, cC0] C0 c)) (.ref (pick [C0, C1, C2, C3, C4, C0, C0, C0, C0, C0, C10, C11, C12, C13, C14, C15, C16, C17, C18, C19, C20, C0, C0, C0, C0, C0, C0, C0, C0, C0, C30, C0, C0, C0, C0, C0, C0, C0, C0, C0, tP0, C0, C0, C0, C0, C0, C0, C0, C0, C0, cC0] C0 1)) = some b := by
    intro c b hcb
    unfold subOf at hcb
    split at hcb
    · rename_i hc
      simp only [List.mem_cons, List.not_mem_nil, or_false] at hc
      rcases hc with rfl | rfl | rfl | rfl | rfl
      · cases hcb; exact ⟨⟨⟨pg0, hd0, po0, sa0⟩, kha0, kn, ktk, khm0⟩, kit_ref kd1 kt1 kf1 kk0_1⟩
      · cases hcb; exact ⟨⟨⟨pg3, hd3, po3, sa3⟩, kha3, kn, ktk, khm3⟩, kit_ref kd1 kt1 kf1 kk3_1⟩
      · cases hcb; exact ⟨⟨⟨pg4, hd4, po4, sa4⟩, kha4, kn, ktk, khm4⟩, kit_ref kd1 kt1 kf1 kk4_1⟩
      · cases hcb; exact ⟨⟨⟨pg1, hd1, po1, sa1⟩, kha1, kn, ktk, khm1⟩, kit_ref kd1 kt1 kf1 kk1_1⟩
      · cases hcb; exact ⟨⟨⟨pg2, hd2, po2, sa2⟩, kha2, kn, ktk, khm2⟩, kit_ref kd1 kt1 kf1 kk2_1⟩
    · cases hcb
  have iscAll2 : ∀ c b, subOf 2 c = some b → InsOk K (pick [C0, C1, C2, C3, C4, C0, C0, C0, C0, C0, C10, C11, C12, C13, C14, C15, C16, C17, C18, C19, C20, C0, C0, C0, C0, C0, C0, C0, C0, C0, C30, C0, C0, C0, C0, C0, C0, C0, C0, C0, tP0, C0, C0, C0, C0, C0, C0, C0, C0, C0, cC0] C0 c) ∧ PySem.W.kitOne K (.ref (pick [C0, C1, C2, C3, C4, C0, C0, C0, C0, C0, C10, C11, C12, C13, C14, C15, C16, C17, C18, C19, C20, C0, C0, C0, C0, C0, C0, C0, C0, C0, C30, C0, C0, C0, C0, C0, C0, C0, C0, C0, tP0, C0, C0, C0, C0, C0, C0, C0, C0, C0, cC0] C0 c)) (.ref (pick [C0, C1, C2, C3, C4, C0, C0, C0, C0, C0, C10, C11, C12, C13, C14, C15, C16, C17, C18, C19, C20, C0, C0, C0, C0, C0, C0, C0, C0, C0, C30, C0, C0, C0, C0, C0, C0, C0, C0, C0, tP0, C0, C0, C0, C0, C0, C0, C0, C0, C0, cC0] C0 2)) = some b := by
    intro c b hcb
    unfold subOf at hcb
    split at hcb
    · rename_i hc
      simp only [List.mem_cons, List.not_mem_nil, or_false] at hc
      rcases hc with rfl | rfl | rfl | rfl | rfl
      · cases hcb; exact ⟨⟨⟨pg0, hd0, po0, sa0⟩, kha0, kn, ktk, khm0⟩, kit_ref kd2 kt2 kf2 kk0_2⟩
      · cases hcb; exact ⟨⟨⟨pg3, hd3, po3, sa3⟩, kha3, kn, ktk, khm3⟩, kit_ref kd2 kt2 kf2 kk3_2⟩
      · cases hcb; exact ⟨⟨⟨pg4, hd4, po4, sa4⟩, kha4, kn, ktk, khm4⟩, kit_ref kd2 kt2 kf2 kk4_2⟩
      · cases hcb; exact ⟨⟨⟨pg1, hd1, po1, sa1⟩, kha1, kn, ktk, khm1⟩, kit_ref kd2 kt2 kf2 kk1_2⟩
      · cases hcb; exact ⟨⟨⟨pg2, hd2, po2, sa2⟩, kha2, kn, ktk, khm2⟩, kit_ref kd2 kt2 kf2 kk2_2⟩
    · cases hcb
  have iscAll3 : ∀ c b, subOf 3 c = some b → InsOk K (pick [C0, C1, C2, C3, C4, C0, C0, C0, C0, C0, C10, C11, C12, C13, C14, C15, C16, C17, C18, C19, C20, C0, C0, C0, C0, C0, C0, C0, C0, C0, C30, C0, C0, C0, C0, C0, C0, C0, C0, C0, tP0, C0, C0, C0, C0, C0, C0, C0, C0, C0, cC0] C0 c) ∧ PySem.W.kitOne K (.ref (pick [C0, C1, C2, C3, C4, C0, C0, C0, C0, C0, C10, C11, C12, C13, C14, C15, C16, C17, C18, C19, C20, C0, C0, C0, C0, C0, C0, C0, C0, C0, C30, C0, C0, C0, C0, C0, C0, C0, C0, C0, tP0, C0, C0, C0, C0, C0, C0, C0, C0, C0, cC0] C0 c)) (.ref (pick [C0, C1, C2, C3, C4, C0, C0, C0, C0, C0, C10, C11, C12, C13, C14, C15, C16, C17, C18, C19, C20, C0, C0, C0, C0, C0, C0, C0, C0, C0, C30, C0, C0, C0, C0, C0, C0, C0, C0, C0, tP0, C0, C0, C0, C0, C0, C0, C0, C0, C0, cC0] C0 3)) = some b := by
    intro c b hcb
    unfold subOf at hcb
    split at hcb
    · rename_i hc
      simp only [List.mem_cons, List.not_mem_nil, or_false] at hc
      rcases hc with rfl | rfl | rfl | rfl | rfl
      · cases hcb; exact ⟨⟨⟨pg0, hd0, po0, sa0⟩, kha0, kn, ktk, khm0⟩, kit_ref kd3 kt3 kf3 kk0_3⟩
      · cases hcb; exact ⟨⟨⟨pg3, hd3, po3, sa3⟩, kha3, kn, ktk, khm3⟩, kit_ref kd3 kt3 kf3 kk3_3⟩
      · cases hcb; exact ⟨⟨⟨pg4, hd4, po4, sa4⟩, kha4, kn, ktk, khm4⟩, kit_ref kd3 kt3 kf3 kk4_3⟩
      · cases hcb; exact ⟨⟨⟨pg1, hd1, po1, sa1⟩, kha1, kn, ktk, khm1⟩, kit_ref kd3 kt3 kf3 kk1_3⟩
      · cases hcb; exact ⟨⟨⟨pg2, hd2, po2, sa2⟩, kha2, kn, ktk, khm2⟩, kit_ref kd3 kt3 kf3 kk2_3⟩
    · cases hcb
  have iscAll4 : ∀ c b, subOf 4 c = some b → InsOk K (pick [C0, C1, C2, C3, C4, C0, C0, C0, C0, C0, C10, C11, C12, C13, C14, C15, C16, C17, C18, C19, C20, C0, C0, C0, C0, C0, C0, C0, C0, C0, C30, C0, C0, C0, C0, C0, C0, C0, C0, C0, tP0, C0, C0, C0, C0, C0, C0, C0, C0, C0, cC0] C0 c) ∧ PySem.W.kitOne K (.ref (pick [C0, C1, C2, C3, C4, C0, C0, C0, C0, C0, C10, C11, C12, C13, C14, C15, C16, C17, C18, C19, C20, C0, C0, C0, C0, C0, C0, C0, C0, C0, C30, C0, C0, C0, C0, C0, C0, C0, C0, C0, tP0, C0, C0, C0, C0, C0, C0, C0, C0, C0, cC0] C0 c)) (.ref (pick [C0, C1, C2, C3, C4, C0, C0, C0, C0, C0, C10, C11, C12, C13, C14, C15, C16, C17, C18, C19, C20, C0, C0, C0, C0, C0, C0, C0, C0, C0, C30, C0, C0, C0, C0, C0, C0, C0, C0, C0, tP0, C0, C0, C0, C0, C0, C0, C0, C0, C0, cC0] C0 4)) = some b := by
    intro c b hcb
    unfold subOf at hcb
    split at hcb
    · rename_i hc
      simp only [List.mem_cons, List.not_mem_nil, or_false] at hc
      rcases hc with rfl | rfl | rfl | rfl | rfl
      · cases hcb; exact ⟨⟨⟨pg0, hd0, po0, sa0⟩, kha0, kn, ktk, khm0⟩, kit_ref kd4 kt4 kf4 kk0_4⟩
      · cases hcb; exact ⟨⟨⟨pg3, hd3, po3, sa3⟩, kha3, kn, ktk, khm3⟩, kit_ref kd4 kt4 kf4 kk3_4⟩
      · cases hcb; exact ⟨⟨⟨pg4, hd4, po4, sa4⟩, kha4, kn, ktk, khm4⟩, kit_ref kd4 kt4 kf4 kk4_4⟩
      · cases hcb; exact ⟨⟨⟨pg1, hd1, po1, sa1⟩, kha1, kn, ktk, khm1⟩, kit_ref kd4 kt4 kf4 kk1_4⟩
      · cases hcb; exact ⟨⟨⟨pg2, hd2, po2, sa2⟩, kha2, kn, ktk, khm2⟩, kit_ref kd4 kt4 kf4 kk2_4⟩
    · cases hcb
  have T : Tx w.params K mg (pick [C0, C1, C2, C3, C4, C0, C0, C0, C0, C0, C10, C11, C12, C13, C14, C15, C16, C17, C18, C19, C20, C0, C0, C0, C0, C0, C0, C0, C0, C0, C30, C0, C0, C0, C0, C0, C0, C0, C0, C0, tP0, C0, C0, C0, C0, C0, C0, C0, C0, C0, cC0] C0) (pick [f0, f1, f2, f3, f4, f5, f6, f7, f8, f9, f10, f11, f12, f13, f14, f15, f16, f17, f18, f19, f20, f21, f22, f23, f24, f25, f26, f27, f28, f29, f30, f31, f32, f33, fa] f0) (pick [PySem.W.fnOf "is_whole" "is_whole" (defArgs s_is_whole) (defBody s_is_whole) (defScope s_is_whole) .none kV0 dc0 pm0 an0 cd0 ct0, PySem.W.fnOf "asked_bounds" "asked_bounds" (defArgs s_asked_bounds) (defBody s_asked_bounds) (defScope s_asked_bounds) .none kV1 dc1 pm1 an1 cd1 ct1, PySem.W.fnOf "__init__" "Talk.__init__" (defArgs s_Talk_init) (defBody s_Talk_init) (defScope s_Talk_init) .none kV2 dc2 pm2 an2 cd2 ct2, PySem.W.fnOf "ask_porch" "Talk.ask_porch" (defArgs s_Talk_ask_porch) (defBody s_Talk_ask_porch) (defScope s_Talk_ask_porch) .none kV3 dc3 pm3 an3 cd3 ct3, PySem.W.fnOf "say" "Talk.say" (defArgs s_Talk_say) (defBody s_Talk_say) (defScope s_Talk_say) .none kV4 dc4 pm4 an4 cd4 ct4, PySem.W.fnOf "put_on" "Talk.put_on" (defArgs s_Talk_put_on) (defBody s_Talk_put_on) (defScope s_Talk_put_on) .none kV5 dc5 pm5 an5 cd5 ct5, PySem.W.fnOf "post" "Talk.post" (defArgs s_Talk_post) (defBody s_Talk_post) (defScope s_Talk_post) .none kV6 dc6 pm6 an6 cd6 ct6, PySem.W.fnOf "answer" "Talk.answer" (defArgs s_Talk_answer) (defBody s_Talk_answer) (defScope s_Talk_answer) .none kV7 dc7 pm7 an7 cd7 ct7, PySem.W.fnOf "take_off" "Talk.take_off" (defArgs s_Talk_take_off) (defBody s_Talk_take_off) (defScope s_Talk_take_off) .none kV8 dc8 pm8 an8 cd8 ct8, PySem.W.fnOf "bring" "Talk.bring" (defArgs s_Talk_bring) (defBody s_Talk_bring) (defScope s_Talk_bring) .none kV9 dc9 pm9 an9 cd9 ct9, PySem.W.fnOf "lose" "Talk.lose" (defArgs s_Talk_lose) (defBody s_Talk_lose) (defScope s_Talk_lose) .none kV10 dc10 pm10 an10 cd10 ct10, PySem.W.fnOf "fall" "Talk.fall" (defArgs s_Talk_fall) (defBody s_Talk_fall) (defScope s_Talk_fall) .none kV11 dc11 pm11 an11 cd11 ct11, PySem.W.fnOf "rise" "Talk.rise" (defArgs s_Talk_rise) (defBody s_Talk_rise) (defScope s_Talk_rise) .none kV12 dc12 pm12 an12 cd12 ct12, PySem.W.fnOf "tick" "Talk.tick" (defArgs s_Talk_tick) (defBody s_Talk_tick) (defScope s_Talk_tick) .none kV13 dc13 pm13 an13 cd13 ct13, PySem.W.fnOf "words_heard" "Talk.words_heard" (defArgs s_Talk_words_heard) (defBody s_Talk_words_heard) (defScope s_Talk_words_heard) .none kV14 dc14 pm14 an14 cd14 ct14, PySem.W.fnOf "words_said" "Talk.words_said" (defArgs s_Talk_words_said) (defBody s_Talk_words_said) (defScope s_Talk_words_said) .none kV15 dc15 pm15 an15 cd15 ct15, PySem.W.fnOf "road" "Talk.road" (defArgs s_Talk_road) (defBody s_Talk_road) (defScope s_Talk_road) .none kV16 dc16 pm16 an16 cd16 ct16, PySem.W.fnOf "do_deed" "do_deed" (defArgs s_do_deed) (defBody s_do_deed) (defScope s_do_deed) .none kV17 dc17 pm17 an17 cd17 ct17, PySem.W.fnOf "play" "play" (defArgs s_play) (defBody s_play) (defScope s_play) .none kV18 dc18 pm18 an18 cd18 ct18, PySem.W.fnOf "shows" "Sure.shows" (defArgs s_Sure_shows) (defBody s_Sure_shows) (defScope s_Sure_shows) .none kV19 dc19 pm19 an19 cd19 ct19, PySem.W.fnOf "__init__" "Fooled.__init__" (defArgs s_Fooled_init) (defBody s_Fooled_init) (defScope s_Fooled_init) .none kV20 dc20 pm20 an20 cd20 ct20, PySem.W.fnOf "shows" "Fooled.shows" (defArgs s_Fooled_shows) (defBody s_Fooled_shows) (defScope s_Fooled_shows) .none kV21 dc21 pm21 an21 cd21 ct21, PySem.W.fnOf "__init__" "Done.__init__" (defArgs s_Done_init) (defBody s_Done_init) (defScope s_Done_init) .none kV22 dc22 pm22 an22 cd22 ct22, PySem.W.fnOf "shows" "Done.shows" (defArgs s_Done_shows) (defBody s_Done_shows) (defScope s_Done_shows) .none kV23 dc23 pm23 an23 cd23 ct23, PySem.W.fnOf "__init__" "Halt.__init__" (defArgs s_Halt_init) (defBody s_Halt_init) (defScope s_Halt_init) .none kV24 dc24 pm24 an24 cd24 ct24, PySem.W.fnOf "shows" "Halt.shows" (defArgs s_Halt_shows) (defBody s_Halt_shows) (defScope s_Halt_shows) .none kV25 dc25 pm25 an25 cd25 ct25, PySem.W.fnOf "is_deed" "is_deed" (defArgs s_is_deed) (defBody s_is_deed) (defScope s_is_deed) .none kV26 dc26 pm26 an26 cd26 ct26, PySem.W.fnOf "told" "told" (defArgs s_told) (defBody s_told) (defScope s_told) .none kV27 dc27 pm27 an27 cd27 ct27, PySem.W.fnOf "heard_one" "heard_one" (defArgs s_heard_one) (defBody s_heard_one) (defScope s_heard_one) .none kV28 dc28 pm28 an28 cd28 ct28, PySem.W.fnOf "answered" "answered" (defArgs s_answered) (defBody s_answered) (defScope s_answered) .none kV29 dc29 pm29 an29 cd29 ct29, PySem.W.fnOf "story_of" "story_of" (defArgs s_story_of) (defBody s_story_of) (defScope s_story_of) .none kV30 dc30 pm30 an30 cd30 ct30, PySem.W.fnOf "judged" "judged" (defArgs s_judged) (defBody s_judged) (defScope s_judged) .none kV31 dc31 pm31 an31 cd31 ct31, PySem.W.fnOf "_law_refused" "_law_refused" (defArgs s__law_refused) (defBody s__law_refused) (defScope s__law_refused) .none kV32 dc32 pm32 an32 cd32 ct32, PySem.W.fnOf "_law_great" "_law_great" (defArgs s__law_great) (defBody s__law_great) (defScope s__law_great) .none kV33 dc33 pm33 an33 cd33 ct33, PySem.W.fnOf "law" "law" (defArgs s_law) (defBody s_law) (defScope s_law) .none kV34 dc34 pm34 an34 (.ref cC0) ct34] (PySem.W.fnOf "is_whole" "is_whole" (defArgs s_is_whole) (defBody s_is_whole) (defScope s_is_whole) .none kV0 dc0 pm0 an0 cd0 ct0)) :=
    { f_is_whole := F0,
      b_is_whole := b0,
      g_is_whole := PySem.W.mg_of X G a0,
      f_asked_bounds := F1,
      b_asked_bounds := b1,
      g_asked_bounds := PySem.W.mg_of X G a1,
      f_Talk_init := F2,
      b_Talk_init := b2,
      f_Talk_ask_porch := F3,
      b_Talk_ask_porch := b3,
      m_Talk_ask_porch := ⟨a3, i3, k3⟩,
      f_Talk_say := F4,
      b_Talk_say := b4,
      m_Talk_say := ⟨a4, i4, k4⟩,
      f_Talk_put_on := F5,
      b_Talk_put_on := b5,
      m_Talk_put_on := ⟨a5, i5, k5⟩,
      f_Talk_post := F6,
      b_Talk_post := b6,
      m_Talk_post := ⟨a6, i6, k6⟩,
      f_Talk_answer := F7,
      b_Talk_answer := b7,
      m_Talk_answer := ⟨a7, i7, k7⟩,
      f_Talk_take_off := F8,
      b_Talk_take_off := b8,
      m_Talk_take_off := ⟨a8, i8, k8⟩,
      f_Talk_bring := F9,
      b_Talk_bring := b9,
      m_Talk_bring := ⟨a9, i9, k9⟩,
      f_Talk_lose := F10,
      b_Talk_lose := b10,
      m_Talk_lose := ⟨a10, i10, k10⟩,
      f_Talk_fall := F11,
      b_Talk_fall := b11,
      m_Talk_fall := ⟨a11, i11, k11⟩,
      f_Talk_rise := F12,
      b_Talk_rise := b12,
      m_Talk_rise := ⟨a12, i12, k12⟩,
      f_Talk_tick := F13,
      b_Talk_tick := b13,
      m_Talk_tick := ⟨a13, i13, k13⟩,
      f_Talk_words_heard := F14,
      b_Talk_words_heard := b14,
      m_Talk_words_heard := ⟨a14, i14, k14⟩,
      f_Talk_words_said := F15,
      b_Talk_words_said := b15,
      m_Talk_words_said := ⟨a15, i15, k15⟩,
      f_Talk_road := F16,
      b_Talk_road := b16,
      f_do_deed := F17,
      b_do_deed := b17,
      g_do_deed := PySem.W.mg_of X G a17,
      f_play := F18,
      b_play := b18,
      g_play := PySem.W.mg_of X G a18,
      f_Sure_shows := F19,
      b_Sure_shows := b19,
      f_Fooled_init := F20,
      b_Fooled_init := b20,
      f_Fooled_shows := F21,
      b_Fooled_shows := b21,
      f_Done_init := F22,
      b_Done_init := b22,
      f_Done_shows := F23,
      b_Done_shows := b23,
      m_Done_shows := ⟨a23, i23, k23⟩,
      f_Halt_init := F24,
      b_Halt_init := b24,
      f_Halt_shows := F25,
      b_Halt_shows := b25,
      m_Halt_shows := ⟨a25, i25, k25⟩,
      f_is_deed := F26,
      b_is_deed := b26,
      g_is_deed := PySem.W.mg_of X G a26,
      f_told := F27,
      b_told := b27,
      g_told := PySem.W.mg_of X G a27,
      f_heard_one := F28,
      b_heard_one := b28,
      g_heard_one := PySem.W.mg_of X G a28,
      f_answered := F29,
      b_answered := b29,
      g_answered := PySem.W.mg_of X G a29,
      f_story_of := F30,
      b_story_of := b30,
      g_story_of := PySem.W.mg_of X G a30,
      f_judged := F31,
      b_judged := b31,
      g_judged := PySem.W.mg_of X G a31,
      f__law_refused := F32,
      b__law_refused := b32,
      g__law_refused := PySem.W.mg_of X G a32,
      f__law_great := F33,
      b__law_great := b33,
      g__law_great := PySem.W.mg_of X G a33,
      f_law := F34,
      b_law := b34,
      g_law := PySem.W.mg_of X G a34,
      mk_0 := ⟨mk0, a2, i2, kc0⟩,
      mk_4 := ⟨mk4, a20, i20, kc4⟩,
      mk_1 := ⟨mk1, a22, i22, kc1⟩,
      mk_2 := ⟨mk2, a24, i24, kc2⟩,
      cl_0 := ⟨pg0, hd0, po0, sa0⟩,
      cl_1 := ⟨pg1, hd1, po1, sa1⟩,
      cl_2 := ⟨pg2, hd2, po2, sa2⟩,
      cl_3 := ⟨pg3, hd3, po3, sa3⟩,
      cl_4 := ⟨pg4, hd4, po4, sa4⟩,
      gc_0 := PySem.W.mg_of X G aC0,
      gc_1 := PySem.W.mg_of X G aC1,
      gc_2 := PySem.W.mg_of X G aC2,
      gc_3 := PySem.W.mg_of X G aC3,
      gc_4 := PySem.W.mg_of X G aC4,
      gc_10 := PySem.W.mg_of X G aC10,
      gc_11 := PySem.W.mg_of X G aC11,
      gc_12 := PySem.W.mg_of X G aC12,
      gc_13 := PySem.W.mg_of X G aC13,
      gc_14 := PySem.W.mg_of X G aC14,
      gc_15 := PySem.W.mg_of X G aC15,
      gc_16 := PySem.W.mg_of X G aC16,
      gc_17 := PySem.W.mg_of X G aC17,
      gc_18 := PySem.W.mg_of X G aC18,
      gc_19 := PySem.W.mg_of X G aC19,
      gc_20 := PySem.W.mg_of X G aC20,
      na_0_early := na0_early,
      na_0_heard := na0_heard,
      na_0_known := na0_known,
      na_0_last := na0_last,
      na_0_life := na0_life,
      na_0_marks := na0_marks,
      na_0_now := na0_now,
      na_0_roads := na0_roads,
      na_0_said := na0_said,
      na_0_stands := na0_stands,
      na_0_window := na0_window,
      na_1_words := na1_words,
      na_2_place := na2_place,
      na_4_story := na4_story,
      xx_11 := xx11,
      xk_11 := xk11,
      xb_11 := xb11,
      xt_11 := xt11,
      xx_12 := xx12,
      xk_12 := xk12,
      xb_12 := xb12,
      xt_12 := xt12,
      xx_13 := xx13,
      xk_13 := xk13,
      xb_13 := xb13,
      xt_13 := xt13,
      xx_14 := xx14,
      xk_14 := xk14,
      xb_14 := xb14,
      xt_14 := xt14,
      xx_15 := xx15,
      xk_15 := xk15,
      xb_15 := xb15,
      xt_15 := xt15,
      xx_16 := xx16,
      xk_16 := xk16,
      xb_16 := xb16,
      xt_16 := xt16,
      xx_17 := xx17,
      xk_17 := xk17,
      xb_17 := xb17,
      xt_17 := xt17,
      xx_18 := xx18,
      xk_18 := xk18,
      xb_18 := xb18,
      xt_18 := xt18,
      xx_19 := xx19,
      xk_19 := xk19,
      xb_19 := xb19,
      xt_19 := xt19,
      xx_20 := xx20,
      xk_20 := xk20,
      xb_20 := xb20,
      xt_20 := xt20,
      cat := catAll,
      isc_1 := iscAll1,
      isc_2 := iscAll2,
      isc_3 := iscAll3,
      isc_4 := iscAll4,
      mk0_3 := ⟨m0a3, m0b3, m0c3, m0d3⟩,
      wg_SIZES := PySem.W.mg_of X G wa_SIZES,
      wd_SIZES := ⟨⟨_, _, wl_SIZES, wk_SIZES, wt_SIZES⟩, wz_SIZES⟩,
      nb_ValueError := PySem.W.mg_none_of X G nb_ValueError,
      nb_abs := PySem.W.mg_none_of X G nb_abs,
      nb_all := PySem.W.mg_none_of X G nb_all,
      nb_bool := PySem.W.mg_none_of X G nb_bool,
      nb_enumerate := PySem.W.mg_none_of X G nb_enumerate,
      nb_int := PySem.W.mg_none_of X G nb_int,
      nb_isinstance := PySem.W.mg_none_of X G nb_isinstance,
      nb_len := PySem.W.mg_none_of X G nb_len,
      nb_list := PySem.W.mg_none_of X G nb_list,
      nb_max := PySem.W.mg_none_of X G nb_max,
      nb_min := PySem.W.mg_none_of X G nb_min,
      nb_range := PySem.W.mg_none_of X G nb_range,
      nb_str := PySem.W.mg_none_of X G nb_str,
      nb_sum := PySem.W.mg_none_of X G nb_sum,
      nb_tuple := PySem.W.mg_none_of X G nb_tuple,
      nb_zip := PySem.W.mg_none_of X G nb_zip,
      c_LONGEST := ⟨t_LONGEST, PySem.W.mg_of X G cv_LONGEST⟩,
      c_MOST_LIFE := ⟨t_MOST_LIFE, PySem.W.mg_of X G cv_MOST_LIFE⟩,
      c_MOST_MARKS := ⟨t_MOST_MARKS, PySem.W.mg_of X G cv_MOST_MARKS⟩,
      c_MOST_SAID := ⟨t_MOST_SAID, PySem.W.mg_of X G cv_MOST_SAID⟩,
      c_MOST_WINDOW := ⟨t_MOST_WINDOW, PySem.W.mg_of X G cv_MOST_WINDOW⟩,
      c_MOST_WORD := ⟨t_MOST_WORD, PySem.W.mg_of X G cv_MOST_WORD⟩,
      isx := isxAll,
      isy_11 := isyAll11,
      isy_12 := isyAll12,
      isy_13 := isyAll13,
      isy_14 := isyAll14,
      isy_15 := isyAll15,
      isy_16 := isyAll16,
      isy_17 := isyAll17,
      isy_18 := isyAll18,
      isy_19 := isyAll19,
      isy_20 := isyAll20,
      isv := isvAll }
  have cs_ : ∀ {R : Addr × Addr → Prop}, R (cC0, tP0) → ∀ p ∈ [(cC0, tP0)], R p := fun {R} z0 p hp => by
    simp only [List.mem_cons, List.not_mem_nil, or_false] at hp
    rcases hp with rfl
    · exact z0
  have own0 := own "law" fa rc0 (PySem.W.mg_of X G a34) cC0 tP0 _ _ eC0 ddC0 vsC0 slC0 l34 rfl rfl lC0 v11_0
  refine ⟨PySem.W.fnOf "law" "law" (defArgs s_law) (defBody s_law) (defScope s_law) .none kV34 dc34 pm34 an34 (.ref cC0) ct34, [(cC0, tP0)], spLaw K [tP0], cs_ own0, cs_ nP0, cs_ (PySem.W.codeHd_of_K X hdC0), fun s v => .of_eq rfl, fun H a ns hl hb hT hS => ⟨a, ns, rfl, hS, hb, fun p hp => ?_, fun _ => rfl⟩, fun base _ _ hTB => ok_law T { tb_0 := hTB (cC0, tP0) (by simp), cd_0 := rfl } ?_⟩
  · obtain ⟨c, hc⟩ : ∃ c, (c, p) ∈ [(cC0, tP0)] := by
      simp only [List.mem_cons, List.not_mem_nil, or_false] at hp
      rcases hp with rfl
      · exact ⟨cC0, by simp⟩
    exact hT (c, p) hc
  · show [tP0].Nodup
    simp []
theorem walk {l : PySem.W.OpenLaw} {q : Program} {loose : List Str} {XP : (Str → Option Value) → Heap → Prop} {YP : World → Heap → Prop} {d : DefRec} {K : Params → PySem.W.Frag} (hn : l.most = some 63) (hdf : d.params.defaults = []) 
    (hY : ∀ (w : World) (h : Heap), YP w h → (K w.params).In h)
    (F : ∀ (w : World) (mg : Str → Option Value) (fa : Addr) (h : Heap), YP w h → (K w.params).In h → h.Ns mainGlobals mg → mg d.name = some (.ref fa) → OwnTabs q mg (K w.params) h → LamX.LawAtS l w (K w.params) (L2N.CX l.prog w) 8 63 "_law_script" mg fa h) :
    PySem.W.WalkO q loose XP YP l.row.toRowW d [] (fun f vs => PySem.call f vs) :=
  walk_ofOwns (n := 63) (k := 8) (x := "_law_script") (CX := fun w => L2N.CX l.prog w) hn (by decide) hdf ⟨rfl, by decide, by decide⟩ hY F fun w H s e s' z => by
    obtain ⟨_, _, _, _, _, _, _, _, _, _, _, _, z⟩ := z
    exact z
end Pr

open PySem PySem.W PyProof.Rows
set_option maxRecDepth 100000 in
set_option maxHeartbeats 0 in
theorem PySem.Challenge.cw_twoporch_k15_whole_long_holds : PySem.Challenge.rw_twoporch_k15_whole_long.Holds := by
  w_on; o_law; k_head; (case hw => w_witness2)
  k_fill
  refine Pr.walk (l := PySem.Challenge.rw_twoporch_k15_whole_long) rfl rfl (fun w h Y => PySem.W.km_in_of Y) ?F
  case F =>
    intro w mg fa h Y KX G hmg own
    refine' Pr.all_mk rfl KX G hmg own ?aC0 ?aC1 ?aC2 ?aC3 ?aC4 ?aC10 ?aC11 ?aC12 ?aC13 ?aC14 ?aC15 ?aC16 ?aC17 ?aC18 ?aC19 ?aC20 ?a0 ?l0 ?c0 ?k0 ?a1 ?l1 ?c1 ?k1 ?a2 ?i2 ?l2 ?c2 ?k2 ?a3 ?i3 ?l3 ?c3 ?k3 ?a4 ?i4 ?l4 ?c4 ?k4 ?a5 ?i5 ?l5 ?c5 ?k5 ?a6 ?i6 ?l6 ?c6 ?k6 ?a7 ?i7 ?l7 ?c7 ?k7 ?a8 ?i8 ?l8 ?c8 ?k8 ?a9 ?i9 ?l9 ?c9 ?k9 ?a10 ?i10 ?l10 ?c10 ?k10 ?a11 ?i11 ?l11 ?c11 ?k11 ?a12 ?i12 ?l12 ?c12 ?k12 ?a13 ?i13 ?l13 ?c13 ?k13 ?a14 ?i14 ?l14 ?c14 ?k14 ?a15 ?i15 ?l15 ?c15 ?k15 ?a16 ?l16 ?c16 ?k16 ?a17 ?l17 ?c17 ?k17 ?a18 ?l18 ?c18 ?k18 ?a19 ?l19 ?c19 ?k19 ?a20 ?i20 ?l20 ?c20 ?k20 ?a21 ?l21 ?c21 ?k21 ?a22 ?i22 ?l22 ?c22 ?k22 ?a23 ?i23 ?l23 ?c23 ?k23 ?a24 ?i24 ?l24 ?c24 ?k24 ?a25 ?i25 ?l25 ?c25 ?k25 ?a26 ?l26 ?c26 ?k26 ?a27 ?l27 ?c27 ?k27 ?a28 ?l28 ?c28 ?k28 ?a29 ?l29 ?c29 ?k29 ?a30 ?l30 ?c30 ?k30 ?a31 ?l31 ?c31 ?k31 ?a32 ?l32 ?c32 ?k32 ?a33 ?l33 ?c33 ?k33 ?a34 ?l34 ?c34 ?k34 ?pg0 ?hd0 ?po0 ?sa0 ?pg1 ?hd1 ?po1 ?sa1 ?pg2 ?hd2 ?po2 ?sa2 ?pg3 ?hd3 ?po3 ?sa3 ?pg4 ?hd4 ?po4 ?sa4 ?mk0 ?kc0 ?mk4 ?kc4 ?mk1 ?kc1 ?mk2 ?kc2 ?na0_early ?na0_heard ?na0_known ?na0_last ?na0_life ?na0_marks ?na0_now ?na0_roads ?na0_said ?na0_stands ?na0_window ?na1_words ?na2_place ?na4_story ?xx11 ?xk11 ?xb11 ?xt11 ?xx12 ?xk12 ?xb12 ?xt12 ?xx13 ?xk13 ?xb13 ?xt13 ?xx14 ?xk14 ?xb14 ?xt14 ?xx15 ?xk15 ?xb15 ?xt15 ?xx16 ?xk16 ?xb16 ?xt16 ?xx17 ?xk17 ?xb17 ?xt17 ?xx18 ?xk18 ?xb18 ?xt18 ?xx19 ?xk19 ?xb19 ?xt19 ?xx20 ?xk20 ?xb20 ?xt20 ?yb10 ?yd10 ?yt10 ?ys10 ?ys11 ?ys12 ?ys13 ?ys14 ?ys15 ?ys16 ?ys17 ?ys18 ?ys19 ?ys20 ?nb_ValueError ?nb_abs ?nb_all ?nb_bool ?nb_enumerate ?nb_int ?nb_isinstance ?nb_len ?nb_list ?nb_max ?nb_min ?nb_range ?nb_str ?nb_sum ?nb_tuple ?nb_zip ?cv_LONGEST ?cv_MOST_LIFE ?cv_MOST_MARKS ?cv_MOST_SAID ?cv_MOST_WINDOW ?cv_MOST_WORD ?kn ?ktk ?kha0 ?khm0 ?kha3 ?khm3 ?kha4 ?khm4 ?kha1 ?khm1 ?kha2 ?khm2 ?kt1 ?kd1 ?kf1 ?kk0_1 ?kk3_1 ?kk4_1 ?kk1_1 ?kk2_1 ?kt2 ?kd2 ?kf2 ?kk0_2 ?kk3_2 ?kk4_2 ?kk1_2 ?kk2_2 ?kt3 ?kd3 ?kf3 ?kk0_3 ?kk3_3 ?kk4_3 ?kk1_3 ?kk2_3 ?kt4 ?kd4 ?kf4 ?kk0_4 ?kk3_4 ?kk4_4 ?kk1_4 ?kk2_4 ?eg10 ?ek10 ?es10 ?ed10 ?ea10 ?em10 ?ev10 ?eg11 ?ek11 ?es11 ?ed11 ?ea11 ?em11 ?ev11 ?eg12 ?ek12 ?es12 ?ed12 ?ea12 ?em12 ?ev12 ?eg13 ?ek13 ?es13 ?ed13 ?ea13 ?em13 ?ev13 ?eg14 ?ek14 ?es14 ?ed14 ?ea14 ?em14 ?ev14 ?eg15 ?ek15 ?es15 ?ed15 ?ea15 ?em15 ?ev15 ?eg16 ?ek16 ?es16 ?ed16 ?ea16 ?em16 ?ev16 ?eg17 ?ek17 ?es17 ?ed17 ?ea17 ?em17 ?ev17 ?eg18 ?ek18 ?es18 ?ed18 ?ea18 ?em18 ?ev18 ?eg19 ?ek19 ?es19 ?ed19 ?ea19 ?em19 ?ev19 ?eg20 ?ek20 ?es20 ?ed20 ?ea20 ?em20 ?ev20 ?et11 ?ef11 ?ee10_11 ?ee11_11 ?ee12_11 ?ee13_11 ?ee14_11 ?ee15_11 ?ee16_11 ?ee17_11 ?ee18_11 ?ee19_11 ?ee20_11 ?et12 ?ef12 ?ee10_12 ?ee11_12 ?ee12_12 ?ee13_12 ?ee14_12 ?ee15_12 ?ee16_12 ?ee17_12 ?ee18_12 ?ee19_12 ?ee20_12 ?et13 ?ef13 ?ee10_13 ?ee11_13 ?ee12_13 ?ee13_13 ?ee14_13 ?ee15_13 ?ee16_13 ?ee17_13 ?ee18_13 ?ee19_13 ?ee20_13 ?et14 ?ef14 ?ee10_14 ?ee11_14 ?ee12_14 ?ee13_14 ?ee14_14 ?ee15_14 ?ee16_14 ?ee17_14 ?ee18_14 ?ee19_14 ?ee20_14 ?et15 ?ef15 ?ee10_15 ?ee11_15 ?ee12_15 ?ee13_15 ?ee14_15 ?ee15_15 ?ee16_15 ?ee17_15 ?ee18_15 ?ee19_15 ?ee20_15 ?et16 ?ef16 ?ee10_16 ?ee11_16 ?ee12_16 ?ee13_16 ?ee14_16 ?ee15_16 ?ee16_16 ?ee17_16 ?ee18_16 ?ee19_16 ?ee20_16 ?et17 ?ef17 ?ee10_17 ?ee11_17 ?ee12_17 ?ee13_17 ?ee14_17 ?ee15_17 ?ee16_17 ?ee17_17 ?ee18_17 ?ee19_17 ?ee20_17 ?et18 ?ef18 ?ee10_18 ?ee11_18 ?ee12_18 ?ee13_18 ?ee14_18 ?ee15_18 ?ee16_18 ?ee17_18 ?ee18_18 ?ee19_18 ?ee20_18 ?et19 ?ef19 ?ee10_19 ?ee11_19 ?ee12_19 ?ee13_19 ?ee14_19 ?ee15_19 ?ee16_19 ?ee17_19 ?ee18_19 ?ee19_19 ?ee20_19 ?et20 ?ef20 ?ee10_20 ?ee11_20 ?ee12_20 ?ee13_20 ?ee14_20 ?ee15_20 ?ee16_20 ?ee17_20 ?ee18_20 ?ee19_20 ?ee20_20 ?m0a3 ?m0b3 ?m0c3 ?m0d3 ?wa_SIZES ?wl_SIZES ?wk_SIZES ?wt_SIZES ?wz_SIZES ?lC0 ?v11_0 ?hdC0 ?nP0 ?rc0
    (case aC0 => k_is)
    (case aC1 => k_is)
    (case aC2 => k_is)
    (case aC3 => k_is)
    (case aC4 => k_is)
    (case aC10 => k_is)
    (case aC11 => k_is)
    (case aC12 => k_is)
    (case aC13 => k_is)
    (case aC14 => k_is)
    (case aC15 => k_is)
    (case aC16 => k_is)
    (case aC17 => k_is)
    (case aC18 => k_is)
    (case aC19 => k_is)
    (case aC20 => k_is)
    (case a0 => k_is)
    (case l0 => k_is)
    (case c0 => k_is)
    (case k0 => k_is)
    (case a1 => k_is)
    (case l1 => k_is)
    (case c1 => k_is)
    (case k1 => k_is)
    (case a2 => k_is)
    (case i2 => k_is)
    (case l2 => k_is)
    (case c2 => k_is)
    (case k2 => k_is)
    (case a3 => k_is)
    (case i3 => k_is)
    (case l3 => k_is)
    (case c3 => k_is)
    (case k3 => k_is)
    (case a4 => k_is)
    (case i4 => k_is)
    (case l4 => k_is)
    (case c4 => k_is)
    (case k4 => k_is)
    (case a5 => k_is)
    (case i5 => k_is)
    (case l5 => k_is)
    (case c5 => k_is)
    (case k5 => k_is)
    (case a6 => k_is)
    (case i6 => k_is)
    (case l6 => k_is)
    (case c6 => k_is)
    (case k6 => k_is)
    (case a7 => k_is)
    (case i7 => k_is)
    (case l7 => k_is)
    (case c7 => k_is)
    (case k7 => k_is)
    (case a8 => k_is)
    (case i8 => k_is)
    (case l8 => k_is)
    (case c8 => k_is)
    (case k8 => k_is)
    (case a9 => k_is)
    (case i9 => k_is)
    (case l9 => k_is)
    (case c9 => k_is)
    (case k9 => k_is)
    (case a10 => k_is)
    (case i10 => k_is)
    (case l10 => k_is)
    (case c10 => k_is)
    (case k10 => k_is)
    (case a11 => k_is)
    (case i11 => k_is)
    (case l11 => k_is)
    (case c11 => k_is)
    (case k11 => k_is)
    (case a12 => k_is)
    (case i12 => k_is)
    (case l12 => k_is)
    (case c12 => k_is)
    (case k12 => k_is)
    (case a13 => k_is)
    (case i13 => k_is)
    (case l13 => k_is)
    (case c13 => k_is)
    (case k13 => k_is)
    (case a14 => k_is)
    (case i14 => k_is)
    (case l14 => k_is)
    (case c14 => k_is)
    (case k14 => k_is)
    (case a15 => k_is)
    (case i15 => k_is)
    (case l15 => k_is)
    (case c15 => k_is)
    (case k15 => k_is)
    (case a16 => k_is)
    (case l16 => k_is)
    (case c16 => k_is)
    (case k16 => k_is)
    (case a17 => k_is)
    (case l17 => k_is)
    (case c17 => k_is)
    (case k17 => k_is)
    (case a18 => k_is)
    (case l18 => k_is)
    (case c18 => k_is)
    (case k18 => k_is)
    (case a19 => k_is)
    (case l19 => k_is)
    (case c19 => k_is)
    (case k19 => k_is)
    (case a20 => k_is)
    (case i20 => k_is)
    (case l20 => k_is)
    (case c20 => k_is)
    (case k20 => k_is)
    (case a21 => k_is)
    (case l21 => k_is)
    (case c21 => k_is)
    (case k21 => k_is)
    (case a22 => k_is)
    (case i22 => k_is)
    (case l22 => k_is)
    (case c22 => k_is)
    (case k22 => k_is)
    (case a23 => k_is)
    (case i23 => k_is)
    (case l23 => k_is)
    (case c23 => k_is)
    (case k23 => k_is)
    (case a24 => k_is)
    (case i24 => k_is)
    (case l24 => k_is)
    (case c24 => k_is)
    (case k24 => k_is)
    (case a25 => k_is)
    (case i25 => k_is)
    (case l25 => k_is)
    (case c25 => k_is)
    (case k25 => k_is)
    (case a26 => k_is)
    (case l26 => k_is)
    (case c26 => k_is)
    (case k26 => k_is)
    (case a27 => k_is)
    (case l27 => k_is)
    (case c27 => k_is)
    (case k27 => k_is)
    (case a28 => k_is)
    (case l28 => k_is)
    (case c28 => k_is)
    (case k28 => k_is)
    (case a29 => k_is)
    (case l29 => k_is)
    (case c29 => k_is)
    (case k29 => k_is)
    (case a30 => k_is)
    (case l30 => k_is)
    (case c30 => k_is)
    (case k30 => k_is)
    (case a31 => k_is)
    (case l31 => k_is)
    (case c31 => k_is)
    (case k31 => k_is)
    (case a32 => k_is)
    (case l32 => k_is)
    (case c32 => k_is)
    (case k32 => k_is)
    (case a33 => k_is)
    (case l33 => k_is)
    (case c33 => k_is)
    (case k33 => k_is)
    (case a34 => k_is)
    (case l34 => k_is)
    (case c34 => k_is)
    (case k34 => k_is)
    (case pg0 => k_is)
    (case hd0 => k_is)
    (case po0 => k_is)
    (case sa0 => k_is)
    (case pg1 => k_is)
    (case hd1 => k_is)
    (case po1 => k_is)
    (case sa1 => k_is)
    (case pg2 => k_is)
    (case hd2 => k_is)
    (case po2 => k_is)
    (case sa2 => k_is)
    (case pg3 => k_is)
    (case hd3 => k_is)
    (case po3 => k_is)
    (case sa3 => k_is)
    (case pg4 => k_is)
    (case hd4 => k_is)
    (case po4 => k_is)
    (case sa4 => k_is)
    (case mk0 => k_is)
    (case kc0 => k_is)
    (case mk4 => k_is)
    (case kc4 => k_is)
    (case mk1 => k_is)
    (case kc1 => k_is)
    (case mk2 => k_is)
    (case kc2 => k_is)
    (case na0_early => k_is)
    (case na0_heard => k_is)
    (case na0_known => k_is)
    (case na0_last => k_is)
    (case na0_life => k_is)
    (case na0_marks => k_is)
    (case na0_now => k_is)
    (case na0_roads => k_is)
    (case na0_said => k_is)
    (case na0_stands => k_is)
    (case na0_window => k_is)
    (case na1_words => k_is)
    (case na2_place => k_is)
    (case na4_story => k_is)
    (case xx11 => k_exc)
    (case xk11 => k_is)
    (case xb11 => k_is)
    (case xt11 => k_is)
    (case xx12 => k_exc)
    (case xk12 => k_is)
    (case xb12 => k_is)
    (case xt12 => k_is)
    (case xx13 => k_exc)
    (case xk13 => k_is)
    (case xb13 => k_is)
    (case xt13 => k_is)
    (case xx14 => k_exc)
    (case xk14 => k_is)
    (case xb14 => k_is)
    (case xt14 => k_is)
    (case xx15 => k_exc)
    (case xk15 => k_is)
    (case xb15 => k_is)
    (case xt15 => k_is)
    (case xx16 => k_exc)
    (case xk16 => k_is)
    (case xb16 => k_is)
    (case xt16 => k_is)
    (case xx17 => k_exc)
    (case xk17 => k_is)
    (case xb17 => k_is)
    (case xt17 => k_is)
    (case xx18 => k_exc)
    (case xk18 => k_is)
    (case xb18 => k_is)
    (case xt18 => k_is)
    (case xx19 => k_exc)
    (case xk19 => k_is)
    (case xb19 => k_is)
    (case xt19 => k_is)
    (case xx20 => k_exc)
    (case xk20 => k_is)
    (case xb20 => k_is)
    (case xt20 => k_is)
    (case yb10 => k_is)
    (case yd10 => k_is)
    (case yt10 => k_is)
    (case ys10 => first | rfl | k_is)
    (case ys11 => k_is)
    (case ys12 => k_is)
    (case ys13 => k_is)
    (case ys14 => k_is)
    (case ys15 => k_is)
    (case ys16 => k_is)
    (case ys17 => k_is)
    (case ys18 => k_is)
    (case ys19 => k_is)
    (case ys20 => k_is)
    (case nb_ValueError => k_is)
    (case nb_abs => k_is)
    (case nb_all => k_is)
    (case nb_bool => k_is)
    (case nb_enumerate => k_is)
    (case nb_int => k_is)
    (case nb_isinstance => k_is)
    (case nb_len => k_is)
    (case nb_list => k_is)
    (case nb_max => k_is)
    (case nb_min => k_is)
    (case nb_range => k_is)
    (case nb_str => k_is)
    (case nb_sum => k_is)
    (case nb_tuple => k_is)
    (case nb_zip => k_is)
    (case cv_LONGEST => k_is)
    (case cv_MOST_LIFE => k_is)
    (case cv_MOST_MARKS => k_is)
    (case cv_MOST_SAID => k_is)
    (case cv_MOST_WINDOW => k_is)
    (case cv_MOST_WORD => k_is)
    (case kn => k_is)
    (case ktk => k_is)
    (case kha0 => k_is)
    (case khm0 => k_is)
    (case kha3 => k_is)
    (case khm3 => k_is)
    (case kha4 => k_is)
    (case khm4 => k_is)
    (case kha1 => k_is)
    (case khm1 => k_is)
    (case kha2 => k_is)
    (case khm2 => k_is)
    (case kt1 => k_is)
    (case kd1 => k_is)
    (case kf1 => k_is)
    (case kk0_1 => k_is)
    (case kk3_1 => k_is)
    (case kk4_1 => k_is)
    (case kk1_1 => k_is)
    (case kk2_1 => k_is)
    (case kt2 => k_is)
    (case kd2 => k_is)
    (case kf2 => k_is)
    (case kk0_2 => k_is)
    (case kk3_2 => k_is)
    (case kk4_2 => k_is)
    (case kk1_2 => k_is)
    (case kk2_2 => k_is)
    (case kt3 => k_is)
    (case kd3 => k_is)
    (case kf3 => k_is)
    (case kk0_3 => k_is)
    (case kk3_3 => k_is)
    (case kk4_3 => k_is)
    (case kk1_3 => k_is)
    (case kk2_3 => k_is)
    (case kt4 => k_is)
    (case kd4 => k_is)
    (case kf4 => k_is)
    (case kk0_4 => k_is)
    (case kk3_4 => k_is)
    (case kk4_4 => k_is)
    (case kk1_4 => k_is)
    (case kk2_4 => k_is)
    (case eg10 => k_is)
    (case ek10 => k_is)
    (case es10 => k_is)
    (case ed10 => k_is)
    (case ea10 => k_is)
    (case em10 => k_is)
    (case ev10 => kit_is)
    (case eg11 => k_is)
    (case ek11 => k_is)
    (case es11 => k_is)
    (case ed11 => k_is)
    (case ea11 => k_is)
    (case em11 => k_is)
    (case ev11 => kit_is)
    (case eg12 => k_is)
    (case ek12 => k_is)
    (case es12 => k_is)
    (case ed12 => k_is)
    (case ea12 => k_is)
    (case em12 => k_is)
    (case ev12 => kit_is)
    (case eg13 => k_is)
    (case ek13 => k_is)
    (case es13 => k_is)
    (case ed13 => k_is)
    (case ea13 => k_is)
    (case em13 => k_is)
    (case ev13 => kit_is)
    (case eg14 => k_is)
    (case ek14 => k_is)
    (case es14 => k_is)
    (case ed14 => k_is)
    (case ea14 => k_is)
    (case em14 => k_is)
    (case ev14 => kit_is)
    (case eg15 => k_is)
    (case ek15 => k_is)
    (case es15 => k_is)
    (case ed15 => k_is)
    (case ea15 => k_is)
    (case em15 => k_is)
    (case ev15 => kit_is)
    (case eg16 => k_is)
    (case ek16 => k_is)
    (case es16 => k_is)
    (case ed16 => k_is)
    (case ea16 => k_is)
    (case em16 => k_is)
    (case ev16 => kit_is)
    (case eg17 => k_is)
    (case ek17 => k_is)
    (case es17 => k_is)
    (case ed17 => k_is)
    (case ea17 => k_is)
    (case em17 => k_is)
    (case ev17 => kit_is)
    (case eg18 => k_is)
    (case ek18 => k_is)
    (case es18 => k_is)
    (case ed18 => k_is)
    (case ea18 => k_is)
    (case em18 => k_is)
    (case ev18 => kit_is)
    (case eg19 => k_is)
    (case ek19 => k_is)
    (case es19 => k_is)
    (case ed19 => k_is)
    (case ea19 => k_is)
    (case em19 => k_is)
    (case ev19 => kit_is)
    (case eg20 => k_is)
    (case ek20 => k_is)
    (case es20 => k_is)
    (case ed20 => k_is)
    (case ea20 => k_is)
    (case em20 => k_is)
    (case ev20 => kit_is)
    (case et11 => k_is)
    (case ef11 => k_is)
    (case ee10_11 => k_is)
    (case ee11_11 => k_is)
    (case ee12_11 => k_is)
    (case ee13_11 => k_is)
    (case ee14_11 => k_is)
    (case ee15_11 => k_is)
    (case ee16_11 => k_is)
    (case ee17_11 => k_is)
    (case ee18_11 => k_is)
    (case ee19_11 => k_is)
    (case ee20_11 => k_is)
    (case et12 => k_is)
    (case ef12 => k_is)
    (case ee10_12 => k_is)
    (case ee11_12 => k_is)
    (case ee12_12 => k_is)
    (case ee13_12 => k_is)
    (case ee14_12 => k_is)
    (case ee15_12 => k_is)
    (case ee16_12 => k_is)
    (case ee17_12 => k_is)
    (case ee18_12 => k_is)
    (case ee19_12 => k_is)
    (case ee20_12 => k_is)
    (case et13 => k_is)
    (case ef13 => k_is)
    (case ee10_13 => k_is)
    (case ee11_13 => k_is)
    (case ee12_13 => k_is)
    (case ee13_13 => k_is)
    (case ee14_13 => k_is)
    (case ee15_13 => k_is)
    (case ee16_13 => k_is)
    (case ee17_13 => k_is)
    (case ee18_13 => k_is)
    (case ee19_13 => k_is)
    (case ee20_13 => k_is)
    (case et14 => k_is)
    (case ef14 => k_is)
    (case ee10_14 => k_is)
    (case ee11_14 => k_is)
    (case ee12_14 => k_is)
    (case ee13_14 => k_is)
    (case ee14_14 => k_is)
    (case ee15_14 => k_is)
    (case ee16_14 => k_is)
    (case ee17_14 => k_is)
    (case ee18_14 => k_is)
    (case ee19_14 => k_is)
    (case ee20_14 => k_is)
    (case et15 => k_is)
    (case ef15 => k_is)
    (case ee10_15 => k_is)
    (case ee11_15 => k_is)
    (case ee12_15 => k_is)
    (case ee13_15 => k_is)
    (case ee14_15 => k_is)
    (case ee15_15 => k_is)
    (case ee16_15 => k_is)
    (case ee17_15 => k_is)
    (case ee18_15 => k_is)
    (case ee19_15 => k_is)
    (case ee20_15 => k_is)
    (case et16 => k_is)
    (case ef16 => k_is)
    (case ee10_16 => k_is)
    (case ee11_16 => k_is)
    (case ee12_16 => k_is)
    (case ee13_16 => k_is)
    (case ee14_16 => k_is)
    (case ee15_16 => k_is)
    (case ee16_16 => k_is)
    (case ee17_16 => k_is)
    (case ee18_16 => k_is)
    (case ee19_16 => k_is)
    (case ee20_16 => k_is)
    (case et17 => k_is)
    (case ef17 => k_is)
    (case ee10_17 => k_is)
    (case ee11_17 => k_is)
    (case ee12_17 => k_is)
    (case ee13_17 => k_is)
    (case ee14_17 => k_is)
    (case ee15_17 => k_is)
    (case ee16_17 => k_is)
    (case ee17_17 => k_is)
    (case ee18_17 => k_is)
    (case ee19_17 => k_is)
    (case ee20_17 => k_is)
    (case et18 => k_is)
    (case ef18 => k_is)
    (case ee10_18 => k_is)
    (case ee11_18 => k_is)
    (case ee12_18 => k_is)
    (case ee13_18 => k_is)
    (case ee14_18 => k_is)
    (case ee15_18 => k_is)
    (case ee16_18 => k_is)
    (case ee17_18 => k_is)
    (case ee18_18 => k_is)
    (case ee19_18 => k_is)
    (case ee20_18 => k_is)
    (case et19 => k_is)
    (case ef19 => k_is)
    (case ee10_19 => k_is)
    (case ee11_19 => k_is)
    (case ee12_19 => k_is)
    (case ee13_19 => k_is)
    (case ee14_19 => k_is)
    (case ee15_19 => k_is)
    (case ee16_19 => k_is)
    (case ee17_19 => k_is)
    (case ee18_19 => k_is)
    (case ee19_19 => k_is)
    (case ee20_19 => k_is)
    (case et20 => k_is)
    (case ef20 => k_is)
    (case ee10_20 => k_is)
    (case ee11_20 => k_is)
    (case ee12_20 => k_is)
    (case ee13_20 => k_is)
    (case ee14_20 => k_is)
    (case ee15_20 => k_is)
    (case ee16_20 => k_is)
    (case ee17_20 => k_is)
    (case ee18_20 => k_is)
    (case ee19_20 => k_is)
    (case ee20_20 => k_is)
    (case m0a3 => k_is)
    (case m0b3 => k_is)
    (case m0c3 => k_is)
    (case m0d3 => k_is)
    (case wa_SIZES => k_is)
    (case wl_SIZES => k_is)
    (case wk_SIZES => exact ⟨⟨_, _, rfl, rfl⟩, ⟨_, _, rfl, rfl⟩, ⟨_, _, rfl, rfl⟩, ⟨_, _, rfl, rfl⟩, ⟨_, _, rfl, rfl⟩, ⟨_, _, rfl, rfl⟩, ⟨_, _, rfl, rfl⟩, ⟨_, _, rfl, rfl⟩, trivial⟩)
    (case wt_SIZES => exact ⟨⟨_, _, rfl, rfl⟩, ⟨_, _, rfl, rfl⟩, ⟨_, _, rfl, rfl⟩, ⟨_, _, rfl, rfl⟩, ⟨_, _, rfl, rfl⟩, ⟨_, _, rfl, rfl⟩, ⟨_, _, rfl, rfl⟩, ⟨_, _, rfl, rfl⟩, trivial⟩)
    (case wz_SIZES => rfl)
    (case lC0 => first | rfl | k_is)
    (case v11_0 => first | rfl | k_is)
    (case hdC0 => first | rfl | k_is)
    (case nP0 => first | rfl | k_is)
    (case rc0 => first | rfl | decide +kernel)
#print axioms PySem.Challenge.cw_twoporch_k15_whole_long_holds

