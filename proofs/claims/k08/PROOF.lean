import PyProof.Rows.All
import Wide.All
import OpenK.AllK
import Wide.FinOn
import HandS.ForMost
import HandS.Flow
import HandS.Style
import HandS.IsInst
import HandS.Deep
import HandS.RevRange
import HandS.Wide
import PySem.Challenge.RW_leftin_k08_refused
import HandS.Conv
import HandS.ExcCtx
import HandS.ExcOwn
import HandS.ExcIs
import HandS.HotCalls
set_option Elab.async false
set_option linter.all false
set_option maxRecDepth 100000
set_option maxHeartbeats 2000000
set_option autoImplicit false
/-! Lf: a layer of pure values over HandS: what expressions and statements come to, with no heap in sight. -/
namespace Lf
open PySem L2

/-! quick side conditions: what an expression is not, by its head alone -/
def nsE : Expr → Bool | .Starred _ _ => false | _ => true
def nsC : Expr → Bool | .ListComp _ _ _ _ => false | .SetComp _ _ _ _ => false | .DictComp _ _ _ _ _ => false | _ => true
def nsS : Expr → Bool | .Set _ _ _ => false | _ => true
def nsB : Expr → Bool | .UnaryOp _ _ _ => false | .BoolOp _ _ _ => false | .IfExp _ _ _ _ => false | .Compare _ _ _ _ => false | _ => true
def nsX : Expr → Bool | .Slice _ _ _ _ => false | .Tuple _ _ _ => false | _ => true
def nsT : Expr → Bool | .Tuple _ _ _ => false | _ => true
theorem star_c {e : Expr} {es : List Expr} {env : Env} (h : nsE e = true) : starEach (e :: es) env = (false, eval e env) :: starEach es env := by
  cases e <;> first | rfl | cases h
theorem star_1 {e : Expr} {env : Env} (h : nsE e = true) : starEach [e] env = [(false, eval e env)] := by
  rw [star_c h]; rfl
theorem back_ns {pos : Pos} {env : Env} : ∀ {es : List Expr}, es.all nsE = true → (backTo pos (starEach es env)).any (·.1) = false
  | [], _ => rfl
  | e :: es, h => by
    rw [List.all_cons, Bool.and_eq_true] at h
    rw [star_c h.1]
    show (false || (backTo pos (starEach es env)).any (·.1)) = false
    rw [back_ns h.2]; rfl
theorem sw_ns {e : Expr} {t : Option Expr} {n : Nat} {env : Env} (h : nsC e = true) : swapsWith e t n env = pure false := by
  cases e <;> first | rfl | cases h
theorem sws_ns {t e : Expr} {n : Nat} {env : Env} (h : nsC e = true) : swapsWithSole [t] e n env = pure false := by
  show swapsWith e (some t) n env = pure false
  exact sw_ns h
theorem fs_ns {e : Expr} {env : Env} (h : nsS e = true) : ∀ x, foldedSetIterable e env x = pure x := by
  intro x
  cases e <;> first | rfl | cases h
theorem it_ns {e : Expr} {env : Env} (h : nsB e = true) : ∀ whole, isTrue e env whole = (do let v ← whole; standAt e.pos; holding [v] (truthy v)) := by
  intro w
  cases e <;> first | rfl | cases h
theorem px_ns {b : Expr} (h : nsX b = true) : PlainIx b := by
  intro o i
  cases b <;> first | rfl | cases h
theorem bm_ns {op : CmpOp} {b : Expr} (h : nsS b = true) : behindInMarks op b = false := by
  cases b <;> first | rfl | cases h
theorem lm_ns {o o' : CmpOp} {b c : Expr} (h : nsS c = true) : lastMarks [o, o'] [b, c] = false := by
  show behindInMarks o' c = false
  exact bm_ns h
theorem ss_sub {a b e : Expr} {p : Pos} {env : Env} : swappedStores [.Subscript a b p] e env = pure none := by
  cases e <;> rfl
theorem ss_tup {t e : Expr} {env : Env} (h : nsT e = true) : swappedStores [t] e env = pure none := by
  cases e <;> first | (cases t <;> rfl) | cases h

/-- a pure value -/
inductive D where
  | non
  | bl (b : Bool)
  | int (i : Int)
  | str (x : Str)
  | il (ns : List Int)
  | scr (ns : List Int)
  | lst (ds : List D)
  | tup (ds : List D)
  | obj (C : Addr) (fs : List (Str × D))
  | ptr (b : Addr)
  | dic

def scal : D → Bool
  | .non => true
  | .bl _ => true
  | .int _ => true
  | .str _ => true
  | .ptr _ => true
  | _ => false

mutual
inductive Rp (K : PySem.W.Frag) (H : Hp) : V → D → Prop
  | non : Rp K H .non .non
  | bl (b : Bool) : Rp K H (.bl b) (.bl b)
  | int (i : Int) : Rp K H (.int i) (.int i)
  | str (x : Str) : Rp K H (.str x) (.str x)
  | il {a : Addr} {ns : List Int} : H a = some (.lst (ns.map V.int)) → Rp K H (.ref a) (.il ns)
  | scr {a : Addr} {ns : List Int} : SqL K H a (ns.map V.int) → Rp K H (.ref a) (.scr ns)
  | lst {a : Addr} {xs : List V} {ds : List D} : H a = some (.lst xs) → RpAll K H xs ds → Rp K H (.ref a) (.lst ds)
  | tup {a : Addr} {xs : List V} {ds : List D} : H a = some (.tup xs) → RpAll K H xs ds → Rp K H (.ref a) (.tup ds)
  | obj {a C dx : Addr} {fs : List (Str × V)} {gs : List (Str × D)} : H a = some (.ins C dx fs) → RpF K H fs gs → Rp K H (.ref a) (.obj C gs)
  | ptr (b : Addr) : Rp K H (.ref b) (.ptr b)
  | dic {a : Addr} : H a = some (.dK []) → Rp K H (.ref a) .dic
inductive RpAll (K : PySem.W.Frag) (H : Hp) : List V → List D → Prop
  | nil : RpAll K H [] []
  | cons {v : V} {d : D} {vs : List V} {ds : List D} : Rp K H v d → RpAll K H vs ds → RpAll K H (v :: vs) (d :: ds)
inductive RpF (K : PySem.W.Frag) (H : Hp) : List (Str × V) → List (Str × D) → Prop
  | nil : RpF K H [] []
  | cons {f : Str} {v : V} {d : D} {vs : List (Str × V)} {ds : List (Str × D)} : Rp K H v d → RpF K H vs ds → RpF K H ((f, v) :: vs) ((f, d) :: ds)
end

theorem seqT {K : PySem.W.Frag} {H H' : Hp} {a : Addr} {xs : List V} (e : Same H H') (h : SqT K H a xs) : SqT K H' a xs := by
  rcases h with (h | ⟨o, h⟩) | h
  · exact .inl (.inl (e _ _ h))
  · exact .inl (.inr ⟨o, e _ _ h⟩)
  · exact .inr h

mutual
theorem Rp.mono {K : PySem.W.Frag} {H H' : Hp} (e : Same H H') : ∀ {v : V} {d : D}, Rp K H v d → Rp K H' v d
  | _, _, .non => .non
  | _, _, .bl b => .bl b
  | _, _, .int i => .int i
  | _, _, .str x => .str x
  | _, _, .il h => .il (e _ _ h)
  | _, _, .scr h => .scr (e.seq h)
  | _, _, .lst h r => .lst (e _ _ h) (RpAll.mono e r)
  | _, _, .tup h r => .tup (e _ _ h) (RpAll.mono e r)
  | _, _, .obj h r => .obj (e _ _ h) (RpF.mono e r)
  | _, _, .ptr b => .ptr b
  | _, _, .dic h => .dic (e _ _ h)
theorem RpAll.mono {K : PySem.W.Frag} {H H' : Hp} (e : Same H H') : ∀ {vs : List V} {ds : List D}, RpAll K H vs ds → RpAll K H' vs ds
  | _, _, .nil => .nil
  | _, _, .cons h r => .cons (h.mono e) (r.mono e)
theorem RpF.mono {K : PySem.W.Frag} {H H' : Hp} (e : Same H H') : ∀ {vs : List (Str × V)} {ds : List (Str × D)}, RpF K H vs ds → RpF K H' vs ds
  | _, _, .nil => .nil
  | _, _, .cons h r => .cons (h.mono e) (r.mono e)
end

theorem Rp.scal {K : PySem.W.Frag} {H H' : Hp} {v : V} {d : D} (h : Rp K H v d) (s : scal d = true) : Rp K H' v d := by
  cases h with
  | non => exact .non
  | bl b => exact .bl b
  | int i => exact .int i
  | str x => exact .str x
  | il _ => cases s
  | scr _ => cases s
  | lst _ _ => cases s
  | tup _ _ => cases s
  | obj _ _ => cases s
  | ptr b => exact .ptr b
  | dic _ => cases s
theorem RpAll.scal {K : PySem.W.Frag} {H H' : Hp} : ∀ {vs : List V} {ds : List D}, RpAll K H vs ds → ds.all Lf.scal = true → RpAll K H' vs ds
  | _, _, .nil, _ => .nil
  | _, _, .cons h r, e => by
    rw [List.all_cons, Bool.and_eq_true] at e
    exact .cons (h.scal e.1) (r.scal e.2)
theorem RpAll.length {K : PySem.W.Frag} {H : Hp} : ∀ {vs : List V} {ds : List D}, RpAll K H vs ds → vs.length = ds.length
  | _, _, .nil => rfl
  | _, _, .cons _ r => by rw [List.length_cons, List.length_cons, r.length]
theorem RpAll.il {K : PySem.W.Frag} {H : Hp} : ∀ (ns : List Int), RpAll K H (ns.map V.int) (ns.map D.int)
  | [] => .nil
  | n :: r => .cons (.int n) (RpAll.il r)
theorem RpAll.of_il {K : PySem.W.Frag} {H : Hp} : ∀ {vs : List V} {ns : List Int}, RpAll K H vs (ns.map D.int) → vs = ns.map V.int
  | _, [], .nil => rfl
  | _, n :: r, .cons (.int _) h => by rw [List.map_cons, RpAll.of_il h]
theorem RpAll.append {K : PySem.W.Frag} {H : Hp} : ∀ {vs ws : List V} {ds es : List D}, RpAll K H vs ds → RpAll K H ws es → RpAll K H (vs ++ ws) (ds ++ es)
  | _, _, _, _, .nil, r => r
  | _, _, _, _, .cons h r, r' => .cons h (r.append r')
theorem RpAll.get {K : PySem.W.Frag} {H : Hp} : ∀ {vs : List V} {ds : List D}, RpAll K H vs ds → ∀ {i : Nat} {d : D}, ds[i]? = some d → ∃ v, vs[i]? = some v ∧ Rp K H v d
  | _, _, .nil, i, d, e => by simp at e
  | _, _, .cons h r, 0, d, e => by
    simp at e
    subst e
    exact ⟨_, rfl, h⟩
  | _, _, .cons h r, i + 1, d, e => by
    obtain ⟨v, h1, h2⟩ := r.get (i := i) (d := d) (by simpa using e)
    exact ⟨v, by simpa using h1, h2⟩
theorem RpAll.getV {K : PySem.W.Frag} {H : Hp} : ∀ {vs : List V} {ds : List D}, RpAll K H vs ds → ∀ {i : Nat} {v : V}, vs[i]? = some v → ∃ d, ds[i]? = some d ∧ Rp K H v d
  | _, _, .nil, i, d, e => by simp at e
  | _, _, .cons h r, 0, d, e => by
    simp at e
    subst e
    exact ⟨_, rfl, h⟩
  | _, _, .cons h r, i + 1, d, e => by
    obtain ⟨v, h1, h2⟩ := r.getV (i := i) (v := d) (by simpa using e)
    exact ⟨v, by simpa using h1, h2⟩
theorem RpAll.take {K : PySem.W.Frag} {H : Hp} : ∀ (n : Nat) {vs : List V} {ds : List D}, RpAll K H vs ds → RpAll K H (vs.take n) (ds.take n)
  | 0, _, _, _ => .nil
  | _ + 1, _, _, .nil => .nil
  | n + 1, _, _, .cons h r => .cons h (r.take n)
theorem RpAll.drop {K : PySem.W.Frag} {H : Hp} : ∀ (n : Nat) {vs : List V} {ds : List D}, RpAll K H vs ds → RpAll K H (vs.drop n) (ds.drop n)
  | 0, _, _, r => r
  | _ + 1, _, _, .nil => .nil
  | n + 1, _, _, .cons _ r => r.drop n
theorem RpAll.reverse {K : PySem.W.Frag} {H : Hp} : ∀ {vs : List V} {ds : List D}, RpAll K H vs ds → RpAll K H vs.reverse ds.reverse
  | _, _, .nil => .nil
  | _, _, .cons h r => by
    rw [List.reverse_cons, List.reverse_cons]
    exact r.reverse.append (.cons h .nil)
theorem RpAll.set {K : PySem.W.Frag} {H : Hp} {v : V} {d : D} (h : Rp K H v d) : ∀ (i : Nat) {vs : List V} {ds : List D}, RpAll K H vs ds → RpAll K H (vs.set i v) (ds.set i d)
  | _, _, _, .nil => .nil
  | 0, _, _, .cons _ r => .cons h r
  | i + 1, _, _, .cons q r => .cons q (r.set h i)
theorem RpAll.dropLast {K : PySem.W.Frag} {H : Hp} {vs : List V} {ds : List D} (h : RpAll K H vs ds) : RpAll K H vs.dropLast ds.dropLast := by
  rw [List.dropLast_eq_take, List.dropLast_eq_take, h.length]
  exact h.take _
theorem RpF.look {K : PySem.W.Frag} {H : Hp} : ∀ {vs : List (Str × V)} {ds : List (Str × D)}, RpF K H vs ds → ∀ {f : Str} {d : D}, ds.lookup f = some d → ∃ v, vs.lookup f = some v ∧ Rp K H v d
  | _, _, .nil, f, d, e => by simp at e
  | _, _, .cons (f := g) h r, f, d, e => by
    by_cases q : f = g
    · subst q
      simp at e
      subst e
      exact ⟨_, by simp, h⟩
    · have q' : (f == g) = false := by simpa using q
      simp only [List.lookup, q'] at e ⊢
      exact r.look e
theorem RpF.no {K : PySem.W.Frag} {H : Hp} : ∀ {vs : List (Str × V)} {ds : List (Str × D)}, RpF K H vs ds → ∀ {f : Str}, ds.lookup f = none → vs.lookup f = none
  | _, _, .nil, f, e => by simp
  | _, _, .cons (f := g) h r, f, e => by
    by_cases q : f = g
    · subst q
      simp at e
    · have q' : (f == g) = false := by simpa using q
      simp only [List.lookup, q'] at e ⊢
      exact r.no e


/-! a value with the addresses of its own nodes: lists and objects that nothing else speaks of, and what hangs on them -/
inductive G where
  | d (d : D)
  | li (b : Addr) (ns : List Int)
  | ls (b : Addr) (gs : List G)
  | ob (b C : Addr) (fs : List Str) (gs : List G)
mutual
def adds : G → List Addr
  | .d _ => []
  | .li b _ => [b]
  | .ls b gs => b :: addss gs
  | .ob b _ _ gs => b :: addss gs
def addss : List G → List Addr
  | [] => []
  | g :: r => adds g ++ addss r
end
mutual
def erase : G → D
  | .d d => d
  | .li _ ns => .il ns
  | .ls _ gs => .lst (erases gs)
  | .ob _ C fs gs => .obj C (fs.zip (erases gs))
def erases : List G → List D
  | [] => []
  | g :: r => erase g :: erases r
end
/-- what hangs on a tree: constants, tuples -/
def leafD : D → Bool
  | .tup _ => true
  | d => scal d
mutual
def okG : G → Bool
  | .d d => leafD d
  | .li _ _ => true
  | .ls _ gs => okGs gs
  | .ob _ _ fs gs => fs.length == gs.length && okGs gs
def okGs : List G → Bool
  | [] => true
  | g :: r => okG g && okGs r
end
structure Nd (g : G) : Prop where
  nd : (adds g).Nodup
  ok : okG g = true
mutual
inductive AtG (K : PySem.W.Frag) (Hs H : Hp) : V → G → Prop
  | d {v : V} {d : D} : Rp K Hs v d → AtG K Hs H v (.d d)
  | li {b : Addr} {ns : List Int} : H b = some (.lst (ns.map V.int)) → AtG K Hs H (.ref b) (.li b ns)
  | ls {b : Addr} {gs : List G} {vs : List V} : H b = some (.lst vs) → AtGs K Hs H vs gs → AtG K Hs H (.ref b) (.ls b gs)
  | ob {b C dx : Addr} {fs : List Str} {gs : List G} {vs : List V} : H b = some (.ins C dx (fs.zip vs)) → fs.length = vs.length → AtGs K Hs H vs gs → AtG K Hs H (.ref b) (.ob b C fs gs)
inductive AtGs (K : PySem.W.Frag) (Hs H : Hp) : List V → List G → Prop
  | nil : AtGs K Hs H [] []
  | cons {v : V} {g : G} {vs : List V} {gs : List G} : AtG K Hs H v g → AtGs K Hs H vs gs → AtGs K Hs H (v :: vs) (g :: gs)
end
mutual
theorem AtG.mono {K : PySem.W.Frag} {Hs H Hs' H' : Hp} (es : Same Hs Hs') (e : Same H H') : ∀ {v : V} {g : G}, AtG K Hs H v g → AtG K Hs' H' v g
  | _, _, .d r => .d (r.mono es)
  | _, _, .li h => .li (e _ _ h)
  | _, _, .ls h r => .ls (e _ _ h) (AtGs.mono es e r)
  | _, _, .ob h l r => .ob (e _ _ h) l (AtGs.mono es e r)
theorem AtGs.mono {K : PySem.W.Frag} {Hs H Hs' H' : Hp} (es : Same Hs Hs') (e : Same H H') : ∀ {vs : List V} {gs : List G}, AtGs K Hs H vs gs → AtGs K Hs' H' vs gs
  | _, _, .nil => .nil
  | _, _, .cons h r => .cons (AtG.mono es e h) (AtGs.mono es e r)
end
mutual
/-- a node elsewhere changes -/
theorem AtG.off {K : PySem.W.Frag} {Hs H : Hp} {a : Addr} {o : HO} : ∀ {v : V} {g : G}, AtG K Hs H v g → a ∉ adds g → AtG K Hs (upd H a o) v g
  | _, _, .d r, _ => .d r
  | _, _, .li h, n => .li (by rw [upd_ne (fun e => n (by rw [adds, e]; exact List.mem_cons_self ..))]; exact h)
  | _, _, .ls h r, n => .ls (by rw [upd_ne (fun e => n (by rw [adds, e]; exact List.mem_cons_self ..))]; exact h) (AtGs.off r fun z => n (by rw [adds]; exact List.mem_cons_of_mem _ z))
  | _, _, .ob h l r, n => .ob (by rw [upd_ne (fun e => n (by rw [adds, e]; exact List.mem_cons_self ..))]; exact h) l (AtGs.off r fun z => n (by rw [adds]; exact List.mem_cons_of_mem _ z))
theorem AtGs.off {K : PySem.W.Frag} {Hs H : Hp} {a : Addr} {o : HO} : ∀ {vs : List V} {gs : List G}, AtGs K Hs H vs gs → a ∉ addss gs → AtGs K Hs (upd H a o) vs gs
  | _, _, .nil, _ => .nil
  | _, _, .cons h r, n => .cons (AtG.off h fun z => n (by rw [addss]; exact List.mem_append_left _ z)) (AtGs.off r fun z => n (by rw [addss]; exact List.mem_append_right _ z))
end
mutual
theorem AtG.dom {K : PySem.W.Frag} {Hs H : Hp} : ∀ {v : V} {g : G}, AtG K Hs H v g → ∀ b, b ∈ adds g → H b ≠ none
  | _, _, .d r, b, m => by rw [adds] at m; cases m
  | _, _, .li h, b, m => by
    rw [adds, List.mem_singleton] at m
    subst m
    rw [h]; intro z; cases z
  | _, _, .ls h r, b, m => by
    rw [adds] at m
    rcases List.mem_cons.mp m with rfl | m
    · rw [h]; intro z; cases z
    · exact AtGs.dom r b m
  | _, _, .ob h l r, b, m => by
    rw [adds] at m
    rcases List.mem_cons.mp m with rfl | m
    · rw [h]; intro z; cases z
    · exact AtGs.dom r b m
theorem AtGs.dom {K : PySem.W.Frag} {Hs H : Hp} : ∀ {vs : List V} {gs : List G}, AtGs K Hs H vs gs → ∀ b, b ∈ addss gs → H b ≠ none
  | _, _, .nil, b, m => by rw [addss] at m; cases m
  | _, _, .cons h r, b, m => by
    rw [addss] at m
    rcases List.mem_append.mp m with m | m
    · exact AtG.dom h b m
    · exact AtGs.dom r b m
end
theorem AtGs.length {K : PySem.W.Frag} {Hs H : Hp} : ∀ {vs : List V} {gs : List G}, AtGs K Hs H vs gs → vs.length = gs.length
  | _, _, .nil => rfl
  | _, _, .cons _ r => by rw [List.length_cons, List.length_cons, r.length]
theorem RpF.zip {K : PySem.W.Frag} {H : Hp} : ∀ (fs : List Str) {vs : List V} {ds : List D}, RpAll K H vs ds → RpF K H (fs.zip vs) (fs.zip ds)
  | [], _, _, _ => .nil
  | _ :: _, _, _, .nil => .nil
  | _ :: fs, _, _, .cons h r => .cons h (RpF.zip fs r)
mutual
/-- .. as a value, where H2 holds the nodes and the rest -/
theorem AtG.rp {K : PySem.W.Frag} {Hs H H2 : Hp} (es : Same Hs H2) : ∀ {v : V} {g : G}, AtG K Hs H v g → (∀ b, b ∈ adds g → H2 b = H b) → Rp K H2 v (erase g)
  | _, _, .d r, _ => by rw [erase]; exact r.mono es
  | _, _, .li h, q => by rw [erase]; exact .il (by rw [q _ (by rw [adds]; exact List.mem_cons_self ..)]; exact h)
  | _, _, .ls h r, q => by rw [erase]; exact .lst (by rw [q _ (by rw [adds]; exact List.mem_cons_self ..)]; exact h) (AtGs.rp es r fun b m => q b (by rw [adds]; exact List.mem_cons_of_mem _ m))
  | _, _, .ob h l r, q => by rw [erase]; exact .obj (by rw [q _ (by rw [adds]; exact List.mem_cons_self ..)]; exact h) (RpF.zip _ (AtGs.rp es r fun b m => q b (by rw [adds]; exact List.mem_cons_of_mem _ m)))
theorem AtGs.rp {K : PySem.W.Frag} {Hs H H2 : Hp} (es : Same Hs H2) : ∀ {vs : List V} {gs : List G}, AtGs K Hs H vs gs → (∀ b, b ∈ addss gs → H2 b = H b) → RpAll K H2 vs (erases gs)
  | _, _, .nil, _ => by rw [erases]; exact .nil
  | _, _, .cons h r, q => by rw [erases]; exact .cons (AtG.rp es h fun b m => q b (by rw [addss]; exact List.mem_append_left _ m)) (AtGs.rp es r fun b m => q b (by rw [addss]; exact List.mem_append_right _ m))
end

/-- where a value is held: in the whole heap; in what stays; in what is new and stays -/
inductive Lv where
  | full | imm | frs
  deriving DecidableEq
def Lv.le : Lv → Lv → Bool
  | .frs, _ => true
  | .imm, .frs => false
  | .imm, _ => true
  | .full, .full => true
  | .full, _ => false
/-- what stays (i), of it what is new (n), the whole (h) -/
structure W3 where
  i : Hp
  n : Hp
  h : Hp
def W3.at (T : W3) : Lv → Hp
  | .full => T.h
  | .imm => T.i
  | .frs => T.n
structure Ok (T : W3) : Prop where
  ni : Same T.n T.i
  ih : Same T.i T.h
theorem Ok.le {T : W3} (o : Ok T) : ∀ {a b : Lv}, Lv.le a b = true → Same (T.at a) (T.at b)
  | .frs, .frs, _ => Same.refl _
  | .frs, .imm, _ => o.ni
  | .frs, .full, _ => o.ni.trans o.ih
  | .imm, .imm, _ => Same.refl _
  | .imm, .full, _ => o.ih
  | .full, .full, _ => Same.refl _
  | .imm, .frs, h => nomatch h
  | .full, .imm, h => nomatch h
  | .full, .frs, h => nomatch h
theorem Lv.le_full : ∀ (a : Lv), Lv.le a .full = true
  | .frs => rfl
  | .imm => rfl
  | .full => rfl
theorem Ok.full {T : W3} (o : Ok T) {a : Lv} : Same (T.at a) T.h := o.le (b := .full) (Lv.le_full a)

/-- new things alone -/
structure Grow (T T' : W3) : Prop where
  ok : Ok T'
  ex : Same T.h T'.h
  xi : Same T.i T'.i
  xn : Same T.n T'.n
  fi : ∀ a, T.i a = none → T.h a ≠ none → T'.i a = none
  fn : ∀ a, T.n a = none → T.h a ≠ none → T'.n a = none
theorem Grow.refl {T : W3} (o : Ok T) : Grow T T := ⟨o, Same.refl _, Same.refl _, Same.refl _, fun _ h _ => h, fun _ h _ => h⟩
theorem Same.some {H H' : Hp} (e : Same H H') {a : Addr} (h : H a ≠ none) : H' a ≠ none := by
  cases q : H a with
  | none => exact absurd q h
  | some o => rw [e a o q]; intro z; cases z
theorem Grow.trans {T T1 T2 : W3} (a : Grow T T1) (b : Grow T1 T2) : Grow T T2 :=
  ⟨b.ok, a.ex.trans b.ex, a.xi.trans b.xi, a.xn.trans b.xn, fun c h q => b.fi c (a.fi c h q) (Same.some a.ex q), fun c h q => b.fn c (a.fn c h q) (Same.some a.ex q)⟩
theorem Grow.at {T T' : W3} (g : Grow T T') : ∀ (l : Lv), Same (T.at l) (T'.at l)
  | .full => g.ex
  | .imm => g.xi
  | .frs => g.xn
/-- .. own things may have changed, none is kept -/
structure Gs (T T' : W3) : Prop where
  ok : Ok T'
  dom : ∀ a, T.h a ≠ none → T'.h a ≠ none
  xi : Same T.i T'.i
  xn : Same T.n T'.n
  fi : ∀ a, T.i a = none → T.h a ≠ none → T'.i a = none
  fn : ∀ a, T.n a = none → T.h a ≠ none → T'.n a = none
theorem Grow.s {T T' : W3} (g : Grow T T') : Gs T T' := ⟨g.ok, fun _ h => Same.some g.ex h, g.xi, g.xn, g.fi, g.fn⟩
theorem Gs.refl {T : W3} (o : Ok T) : Gs T T := (Grow.refl o).s
theorem Gs.trans {T T1 T2 : W3} (a : Gs T T1) (b : Gs T1 T2) : Gs T T2 :=
  ⟨b.ok, fun c h => b.dom c (a.dom c h), a.xi.trans b.xi, a.xn.trans b.xn, fun c h q => b.fi c (a.fi c h q) (a.dom c q), fun c h q => b.fn c (a.fn c h q) (a.dom c q)⟩
theorem Gs.at {T T' : W3} (g : Gs T T') : ∀ {l : Lv}, l ≠ .full → Same (T.at l) (T'.at l)
  | .full, h => absurd rfl h
  | .imm, _ => g.xi
  | .frs, _ => g.xn

/-- .. own things may have changed, or are kept from now on -/
structure Gw (T T' : W3) : Prop where
  ok : Ok T'
  dom : ∀ a, T.h a ≠ none → T'.h a ≠ none
  xi : Same T.i T'.i
  xn : Same T.n T'.n
  fn : ∀ a, T.n a = none → T.i a ≠ none → T.h a ≠ none → T'.n a = none
theorem Grow.w {T T' : W3} (g : Grow T T') : Gw T T' := ⟨g.ok, fun _ h => Same.some g.ex h, g.xi, g.xn, fun a h1 _ h2 => g.fn a h1 h2⟩
theorem Gw.refl {T : W3} (o : Ok T) : Gw T T := (Grow.refl o).w
theorem Gw.trans {T T1 T2 : W3} (a : Gw T T1) (b : Gw T1 T2) : Gw T T2 :=
  ⟨b.ok, fun c h => b.dom c (a.dom c h), a.xi.trans b.xi, a.xn.trans b.xn, fun c h q r => b.fn c (a.fn c h q r) (Same.some a.xi q) (a.dom c r)⟩
theorem Gw.at {T T' : W3} (g : Gw T T') : ∀ {l : Lv}, l ≠ .full → Same (T.at l) (T'.at l)
  | .full, h => absurd rfl h
  | .imm, _ => g.xi
  | .frs, _ => g.xn

/-- a new object that nothing else speaks of (a new list, say) -/
def W3.put (T : W3) (a : Addr) (o : HO) : W3 := ⟨T.i, T.n, upd T.h a o⟩
theorem same_new {H : Hp} {p : Addr} {o : HO} (h : H p = none) : Same H (upd H p o) := fun b x e => by
  rw [upd_ne (ne_of_none e h)]
  exact e
theorem same_into {H H' : Hp} {p : Addr} {o : HO} (e : Same H H') (h : H p = none) : Same H (upd H' p o) := fun b x q => by
  rw [upd_ne (ne_of_none q h)]
  exact e b x q
theorem Ok.i_none {T : W3} (o : Ok T) {a : Addr} (h : T.h a = none) : T.i a = none := Same.free o.ih h
theorem Ok.n_none {T : W3} (o : Ok T) {a : Addr} (h : T.h a = none) : T.n a = none := Same.free o.ni (o.i_none h)
theorem Ok.n_none' {T : W3} (o : Ok T) {a : Addr} (h : T.i a = none) : T.n a = none := Same.free o.ni h
theorem Ok.put {T : W3} (o : Ok T) {a : Addr} {x : HO} (h : T.i a = none) : Ok (T.put a x) := ⟨o.ni, same_into o.ih h⟩
theorem Grow.put {T : W3} (o : Ok T) {a : Addr} {x : HO} (h : T.h a = none) : Grow T (T.put a x) :=
  ⟨o.put (o.i_none h), same_new h, Same.refl _, Same.refl _, fun _ q _ => q, fun _ q _ => q⟩
/-- an own object changes -/
theorem Gs.put {T : W3} (o : Ok T) {a : Addr} {x : HO} (h : T.i a = none) : Gs T (T.put a x) :=
  ⟨o.put h, fun b q => by
    show upd T.h a x b ≠ none
    by_cases e : b = a
    · subst e; rw [upd_same]; intro z; cases z
    · rw [upd_ne e]; exact q, Same.refl _, Same.refl _, fun _ q _ => q, fun _ q _ => q⟩
/-- an own object changes -/
theorem Gw.put {T : W3} (o : Ok T) {a : Addr} {x : HO} (h : T.i a = none) : Gw T (T.put a x) :=
  ⟨o.put h, fun b q => by
    show upd T.h a x b ≠ none
    by_cases e : b = a
    · subst e; rw [upd_same]; intro z; cases z
    · rw [upd_ne e]; exact q, Same.refl _, Same.refl _, fun _ q _ _ => q⟩
/-- the object at a is from now on kept as it is -/
def W3.fix (T : W3) (a : Addr) (o : HO) : W3 := ⟨upd T.i a o, upd T.n a o, T.h⟩
def W3.fixI (T : W3) (a : Addr) (o : HO) : W3 := ⟨upd T.i a o, T.n, T.h⟩
theorem same_both {H H' : Hp} {p : Addr} {o : HO} (e : Same H H') : Same (upd H p o) (upd H' p o) := fun b x q => by
  by_cases z : b = p
  · subst z; rw [upd_same] at q ⊢; exact q
  · rw [upd_ne z] at q ⊢; exact e b x q
theorem same_up {H H' : Hp} {p : Addr} {o : HO} (e : Same H H') (h : H' p = some o) : Same (upd H p o) H' := fun b x q => by
  by_cases z : b = p
  · subst z; rw [upd_same] at q; rw [h]; exact q
  · rw [upd_ne z] at q; exact e b x q
theorem Grow.fix {T0 T : W3} (g : Grow T0 T) {a : Addr} {o : HO} (h0 : T0.h a = none) (hi : T.i a = none) (h : T.h a = some o) : Grow T0 (T.fix a o) :=
  ⟨⟨same_both g.ok.ni, same_up g.ok.ih h⟩, g.ex, same_into g.xi (Same.free g.xi hi), same_into g.xn (Same.free g.xn (g.ok.n_none' hi)),
    fun b q r => by
      show upd T.i a o b = none
      rw [upd_ne (fun e => r (by rw [e]; exact h0))]
      exact g.fi b q r,
    fun b q r => by
      show upd T.n a o b = none
      rw [upd_ne (fun e => r (by rw [e]; exact h0))]
      exact g.fn b q r⟩
theorem Grow.fixI {T0 T : W3} (g : Grow T0 T) {a : Addr} {o : HO} (h0 : T0.h a = none) (hi : T.i a = none) (h : T.h a = some o) : Grow T0 (T.fixI a o) :=
  ⟨⟨same_into g.ok.ni (g.ok.n_none' hi), same_up g.ok.ih h⟩, g.ex, same_into g.xi (Same.free g.xi hi), g.xn,
    fun b q r => by
      show upd T.i a o b = none
      rw [upd_ne (fun e => r (by rw [e]; exact h0))]
      exact g.fi b q r,
    g.fn⟩

/-- what a name stands for: a value that stays; a list of il, a list, a dict of one's own -/
inductive E where
  | v (l : Lv) (d : D)
  | ownI (ns : List Int)
  | own (l : Lv) (ds : List D)
  | dI (l : Lv) (kvs : List (Int × D))
  | dT (l : Lv) (kvs : List (List Int × D))
  | tr (l : Lv) (g : G)
  | dF (a : Addr) (o : Obj) (ws : List (List Key × V)) (l : Lv) (kvs : List (List Int × D))
abbrev PEnv := List (Option E)
def E.isOwn : E → Bool
  | .v _ _ => false
  | .tr _ _ => false
  | _ => true
def E.inn : E → List Addr
  | .tr _ g => adds g
  | _ => []
def keyI (k : Int) : Key := .inl k
def keyT (k : List Int) : List Key := k.map .inl
inductive RpK {κ κ' : Type} (f : κ → κ') (K : PySem.W.Frag) (H : Hp) : List (κ' × V) → List (κ × D) → Prop
  | nil : RpK f K H [] []
  | cons {k : κ} {v : V} {d : D} {vs : List (κ' × V)} {ds : List (κ × D)} : Rp K H v d → RpK f K H vs ds → RpK f K H ((f k, v) :: vs) ((k, d) :: ds)
theorem RpK.mono {κ κ' : Type} {f : κ → κ'} {K : PySem.W.Frag} {H H' : Hp} (e : Same H H') : ∀ {vs : List (κ' × V)} {ds : List (κ × D)}, RpK f K H vs ds → RpK f K H' vs ds
  | _, _, .nil => .nil
  | _, _, .cons h r => .cons (h.mono e) (r.mono e)
theorem RpK.length {κ κ' : Type} {f : κ → κ'} {K : PySem.W.Frag} {H : Hp} : ∀ {vs : List (κ' × V)} {ds : List (κ × D)}, RpK f K H vs ds → vs.length = ds.length
  | _, _, .nil => rfl
  | _, _, .cons _ r => by rw [List.length_cons, List.length_cons, r.length]

def AtE (K : PySem.W.Frag) (T : W3) (v : V) : E → Prop
  | .v l d => l ≠ .full ∧ Rp K (T.at l) v d
  | .ownI ns => ∃ a, v = .ref a ∧ T.h a = some (.lst (ns.map V.int)) ∧ T.i a = none
  | .own l ds => l ≠ .full ∧ ∃ a vs, v = .ref a ∧ T.h a = some (.lst vs) ∧ T.i a = none ∧ RpAll K (T.at l) vs ds
  | .dI l kvs => l ≠ .full ∧ ∃ a ws, v = .ref a ∧ T.h a = some (.dK ws) ∧ T.i a = none ∧ RpK keyI K (T.at l) ws kvs
  | .dT l kvs => l ≠ .full ∧ ∃ a ws, v = .ref a ∧ T.h a = some (.dT ws) ∧ T.i a = none ∧ RpK keyT K (T.at l) ws kvs
  | .tr l g => l ≠ .full ∧ AtG K (T.at l) T.h v g ∧ (∀ b, b ∈ adds g → T.i b = none) ∧ (adds g).Nodup
  | .dF a o ws l kvs => l ≠ .full ∧ v = .ref a ∧ T.h a = some (.frz o (.dT ws)) ∧ T.i a = none ∧ RpK keyT K (T.at l) ws kvs
/-- an own thing's address -/
theorem AtE.addr {K : PySem.W.Frag} {T : W3} {v : V} {e : E} (h : AtE K T v e) (o : e.isOwn = true) : ∃ a, v = .ref a ∧ T.i a = none ∧ T.h a ≠ none := by
  cases e with
  | v _ _ => cases o
  | ownI ns => obtain ⟨a, rfl, h1, h2⟩ := h; exact ⟨a, rfl, h2, by rw [h1]; intro z; cases z⟩
  | own l ds => obtain ⟨_, a, vs, rfl, h1, h2, _⟩ := h; exact ⟨a, rfl, h2, by rw [h1]; intro z; cases z⟩
  | dI l ds => obtain ⟨_, a, vs, rfl, h1, h2, _⟩ := h; exact ⟨a, rfl, h2, by rw [h1]; intro z; cases z⟩
  | dT l ds => obtain ⟨_, a, vs, rfl, h1, h2, _⟩ := h; exact ⟨a, rfl, h2, by rw [h1]; intro z; cases z⟩
  | tr _ _ => cases o
  | dF b _ _ _ _ => obtain ⟨_, rfl, h1, h2, _⟩ := h; exact ⟨b, rfl, h2, by rw [h1]; intro z; cases z⟩
theorem AtE.inn {K : PySem.W.Frag} {T : W3} {v : V} {e : E} (h : AtE K T v e) {b : Addr} (m : b ∈ e.inn) : T.i b = none ∧ T.h b ≠ none := by
  cases e with
  | tr l g => exact ⟨h.2.2.1 b m, h.2.1.dom b m⟩
  | v _ _ => cases m
  | ownI _ => cases m
  | own _ _ => cases m
  | dI _ _ => cases m
  | dT _ _ => cases m
  | dF _ _ _ _ _ => cases m
theorem AtE.grow {K : PySem.W.Frag} {T T' : W3} {v : V} {e : E} (g : Grow T T') (h : AtE K T v e) : AtE K T' v e := by
  cases e with
  | v l d => exact ⟨h.1, h.2.mono (g.at l)⟩
  | ownI ns => obtain ⟨a, rfl, h1, h2⟩ := h; exact ⟨a, rfl, g.ex _ _ h1, g.fi a h2 (by rw [h1]; intro z; cases z)⟩
  | own l ds => obtain ⟨z, a, vs, rfl, h1, h2, r⟩ := h; exact ⟨z, a, vs, rfl, g.ex _ _ h1, g.fi a h2 (by rw [h1]; intro z; cases z), r.mono (g.at l)⟩
  | dI l ds => obtain ⟨z, a, vs, rfl, h1, h2, r⟩ := h; exact ⟨z, a, vs, rfl, g.ex _ _ h1, g.fi a h2 (by rw [h1]; intro z; cases z), r.mono (g.at l)⟩
  | dT l ds => obtain ⟨z, a, vs, rfl, h1, h2, r⟩ := h; exact ⟨z, a, vs, rfl, g.ex _ _ h1, g.fi a h2 (by rw [h1]; intro z; cases z), r.mono (g.at l)⟩
  | tr l t => exact ⟨h.1, h.2.1.mono (g.at l) g.ex, fun b m => g.fi b (h.2.2.1 b m) (h.2.1.dom b m), h.2.2.2⟩
  | dF b o ws l kvs => obtain ⟨z, rfl, h1, h2, r⟩ := h; exact ⟨z, rfl, g.ex _ _ h1, g.fi b h2 (by rw [h1]; intro z; cases z), r.mono (g.at l)⟩
/-- another own object changes -/
theorem AtE.put {K : PySem.W.Frag} {T : W3} {v : V} {e : E} {a : Addr} {o : HO} (h : AtE K T v e) (n : e.isOwn = true → v ≠ .ref a) (n2 : a ∉ e.inn) : AtE K (T.put a o) v e := by
  cases e with
  | v l d =>
    cases l with
    | full => exact absurd rfl h.1
    | imm => exact h
    | frs => exact h
  | ownI ns =>
    obtain ⟨b, rfl, h1, h2⟩ := h
    exact ⟨b, rfl, by show upd T.h a o b = _; rw [upd_ne (fun z => n rfl (by rw [z]))]; exact h1, h2⟩
  | own l ds =>
    obtain ⟨z, b, vs, rfl, h1, h2, r⟩ := h
    refine ⟨z, b, vs, rfl, by show upd T.h a o b = _; rw [upd_ne (fun z => n rfl (by rw [z]))]; exact h1, h2, ?_⟩
    cases l with
    | full => exact absurd rfl z
    | imm => exact r
    | frs => exact r
  | dI l ds =>
    obtain ⟨z, b, vs, rfl, h1, h2, r⟩ := h
    refine ⟨z, b, vs, rfl, by show upd T.h a o b = _; rw [upd_ne (fun z => n rfl (by rw [z]))]; exact h1, h2, ?_⟩
    cases l with
    | full => exact absurd rfl z
    | imm => exact r
    | frs => exact r
  | dT l ds =>
    obtain ⟨z, b, vs, rfl, h1, h2, r⟩ := h
    refine ⟨z, b, vs, rfl, by show upd T.h a o b = _; rw [upd_ne (fun z => n rfl (by rw [z]))]; exact h1, h2, ?_⟩
    cases l with
    | full => exact absurd rfl z
    | imm => exact r
    | frs => exact r
  | tr l t =>
    refine ⟨h.1, ?_, h.2.2.1, h.2.2.2⟩
    have q := h.2.1.off (o := o) n2
    cases l with
    | full => exact absurd rfl h.1
    | imm => exact q
    | frs => exact q
  | dF b o' ws l kvs =>
    obtain ⟨z, rfl, h1, h2, r⟩ := h
    refine ⟨z, rfl, by show upd T.h a o b = _; rw [upd_ne (fun z => n rfl (by rw [z]))]; exact h1, h2, ?_⟩
    cases l with
    | full => exact absurd rfl z
    | imm => exact r
    | frs => exact r

/-- no name owns a -/
structure NotOwn (σ : L2.St) (ρ : PEnv) (a : Addr) : Prop where
  own : ∀ (j : Nat) (e' : E), ρ[j]? = some (some e') → e'.isOwn = true → σ[j]? ≠ some (some (V.ref a))
  inn : ∀ (j : Nat) (e' : E), ρ[j]? = some (some e') → a ∉ e'.inn

structure Fr (K : PySem.W.Frag) (T : W3) (σ : L2.St) (ρ : PEnv) : Prop where
  ok : Ok T
  len : σ.length = ρ.length
  val : ∀ (i : Nat) (e : E), ρ[i]? = some (some e) → ∃ v, σ[i]? = some (some v) ∧ AtE K T v e
  sep : ∀ (i j : Nat) (e e' : E) (a : Addr), ρ[i]? = some (some e) → ρ[j]? = some (some e') → e.isOwn = true → e'.isOwn = true → σ[i]? = some (some (V.ref a)) → σ[j]? = some (some (V.ref a)) → i = j
  sepT : ∀ (i j : Nat) (e e' : E) (b : Addr), ρ[i]? = some (some e) → ρ[j]? = some (some e') → b ∈ e.inn → b ∈ e'.inn → i = j
  sepO : ∀ (i j : Nat) (e e' : E) (b : Addr), ρ[i]? = some (some e) → ρ[j]? = some (some e') → b ∈ e.inn → e'.isOwn = true → σ[j]? ≠ some (some (V.ref b))
theorem Fr.grow {K : PySem.W.Frag} {T T' : W3} {σ : L2.St} {ρ : PEnv} (F : Fr K T σ ρ) (g : Grow T T') : Fr K T' σ ρ :=
  ⟨g.ok, F.len, fun i e h => let ⟨v, h1, h2⟩ := F.val i e h; ⟨v, h1, h2.grow g⟩, F.sep, F.sepT, F.sepO⟩
theorem getset {α : Type} {l : List α} {i j : Nat} {x y : α} (h : (l.set i x)[j]? = some y) : (i = j ∧ x = y) ∨ (i ≠ j ∧ l[j]? = some y) := by
  by_cases e : i = j
  · subst e
    by_cases hl : i < l.length
    · rw [List.getElem?_set_self hl] at h
      exact .inl ⟨rfl, Option.some.inj h⟩
    · rw [List.getElem?_eq_none (by rw [List.length_set]; omega)] at h
      cases h
  · rw [List.getElem?_set_ne e] at h
    exact .inr ⟨e, h⟩
theorem lt_of_set {α : Type} {l : List α} {i j : Nat} {x y : α} (h : (l.set i x)[j]? = some y) : j < l.length := by
  have := (List.getElem?_eq_some_iff.mp h).1
  rw [List.length_set] at this
  exact this
/-- a name is bound anew: the value, what it owns -/
theorem Fr.bind {K : PySem.W.Frag} {T : W3} {σ : L2.St} {ρ : PEnv} (F : Fr K T σ ρ) {i : Nat} {v : V} {e : E} (r : AtE K T v e) (no : e.isOwn = true → ∀ b, v = .ref b → NotOwn σ ρ b) (ni : ∀ b, b ∈ e.inn → NotOwn σ ρ b) :
    Fr K T (σ.set i (some v)) (ρ.set i (some e)) := by
  have hne : ∀ b, b ∈ e.inn → e.isOwn = false := fun b m => by
    cases e with
    | tr _ _ => rfl
    | v _ _ => rfl
    | ownI _ => cases m
    | own _ _ => cases m
    | dI _ _ => cases m
    | dT _ _ => cases m
    | dF _ _ _ _ _ => cases m
  refine ⟨F.ok, by rw [List.length_set, List.length_set, F.len], fun j e' h => ?_, fun j k e1 e2 b h1 h2 o1 o2 s1 s2 => ?_, fun j k e1 e2 b h1 h2 m1 m2 => ?_, fun j k e1 e2 b h1 h2 m1 o2 s2 => ?_⟩
  · have hj := lt_of_set h
    rcases getset h with ⟨rfl, q⟩ | ⟨n, q⟩
    · cases q
      exact ⟨v, by rw [List.getElem?_set_self (by rw [F.len]; exact hj)], r⟩
    · obtain ⟨w, w1, w2⟩ := F.val j e' q
      exact ⟨w, by rw [List.getElem?_set_ne n]; exact w1, w2⟩
  · rcases getset h1 with ⟨rfl, q⟩ | ⟨n1, q1⟩
    · rcases getset h2 with ⟨rfl, q'⟩ | ⟨n2, q2⟩
      · rfl
      · rcases getset s1 with ⟨_, z⟩ | ⟨z, _⟩
        · cases q; cases z
          rw [List.getElem?_set_ne n2] at s2
          exact absurd s2 ((no o1 b rfl).own k e2 q2 o2)
        · exact absurd rfl z
    · rcases getset h2 with ⟨rfl, q'⟩ | ⟨n2, q2⟩
      · rcases getset s2 with ⟨_, z⟩ | ⟨z, _⟩
        · cases q'; cases z
          rw [List.getElem?_set_ne n1] at s1
          exact absurd s1 ((no o2 b rfl).own j e1 q1 o1)
        · exact absurd rfl z
      · rw [List.getElem?_set_ne n1] at s1
        rw [List.getElem?_set_ne n2] at s2
        exact F.sep j k e1 e2 b q1 q2 o1 o2 s1 s2
  · rcases getset h1 with ⟨rfl, q⟩ | ⟨n1, q1⟩
    · cases q
      rcases getset h2 with ⟨rfl, q'⟩ | ⟨n2, q2⟩
      · rfl
      · exact absurd m2 ((ni b m1).inn k e2 q2)
    · rcases getset h2 with ⟨rfl, q'⟩ | ⟨n2, q2⟩
      · cases q'
        exact absurd m1 ((ni b m2).inn j e1 q1)
      · exact F.sepT j k e1 e2 b q1 q2 m1 m2
  · rcases getset h1 with ⟨rfl, q⟩ | ⟨n1, q1⟩
    · cases q
      rcases getset h2 with ⟨rfl, q'⟩ | ⟨n2, q2⟩
      · cases q'
        rw [hne b m1] at o2
        cases o2
      · rw [List.getElem?_set_ne n2] at s2
        exact (ni b m1).own k e2 q2 o2 s2
    · rcases getset h2 with ⟨rfl, q'⟩ | ⟨n2, q2⟩
      · cases q'
        rcases getset s2 with ⟨_, z⟩ | ⟨z, _⟩
        · cases z
          exact (no o2 b rfl).inn j e1 q1 m1
        · exact absurd rfl z
      · rw [List.getElem?_set_ne n2] at s2
        exact F.sepO j k e1 e2 b q1 q2 m1 o2 s2
/-- a name is bound to a value that stays -/
theorem Fr.set {K : PySem.W.Frag} {T : W3} {σ : L2.St} {ρ : PEnv} (F : Fr K T σ ρ) {i : Nat} {v : V} {l : Lv} {d : D} (hl : l ≠ .full) (r : Rp K (T.at l) v d) : Fr K T (σ.set i (some v)) (ρ.set i (some (.v l d))) :=
  F.bind (e := .v l d) ⟨hl, r⟩ (fun o => nomatch o) (fun b m => nomatch m)
/-- a name is bound to a thing of its own -/
theorem Fr.setOwn {K : PySem.W.Frag} {T : W3} {σ : L2.St} {ρ : PEnv} (F : Fr K T σ ρ) {i : Nat} {a : Addr} {e : E} (r : AtE K T (.ref a) e) (n : NotOwn σ ρ a) (ho : e.inn = [] := by rfl) : Fr K T (σ.set i (some (.ref a))) (ρ.set i (some e)) :=
  F.bind r (fun _ b h => by cases h; exact n) (fun b m => by rw [ho] at m; cases m)
theorem Fr.fresh {K : PySem.W.Frag} {T : W3} {σ : L2.St} {ρ : PEnv} (F : Fr K T σ ρ) {a : Addr} (h : T.h a = none) : NotOwn σ ρ a :=
  ⟨fun j e' h1 o s => by
    obtain ⟨v, h2, h3⟩ := F.val j e' h1
    obtain ⟨b, rfl, _, h4⟩ := h3.addr o
    rw [h2] at s
    cases s
    exact h4 h, fun j e' h1 m => by
    obtain ⟨v, h2, h3⟩ := F.val j e' h1
    exact (h3.inn m).2 h⟩
/-- a name is bound to a tree of its own -/
theorem Fr.setTr {K : PySem.W.Frag} {T : W3} {σ : L2.St} {ρ : PEnv} (F : Fr K T σ ρ) {i : Nat} {v : V} {l : Lv} {g : G} (r : AtE K T v (.tr l g)) (n : ∀ b, b ∈ adds g → NotOwn σ ρ b) : Fr K T (σ.set i (some v)) (ρ.set i (some (.tr l g))) :=
  F.bind r (fun o => nomatch o) n
/-- an object that no name owns changes -/
theorem Fr.put {K : PySem.W.Frag} {T : W3} {σ : L2.St} {ρ : PEnv} (F : Fr K T σ ρ) {a : Addr} {o : HO} (hi : T.i a = none) (n : NotOwn σ ρ a) : Fr K (T.put a o) σ ρ :=
  ⟨F.ok.put hi, F.len, fun j e h => by
    obtain ⟨v, h1, h2⟩ := F.val j e h
    exact ⟨v, h1, h2.put (fun z w => n.own j e h z (by rw [h1, w])) (n.inn j e h)⟩, F.sep, F.sepT, F.sepO⟩
/-- the own thing of name i changes -/
theorem Fr.chg {K : PySem.W.Frag} {T : W3} {σ : L2.St} {ρ : PEnv} (F : Fr K T σ ρ) {i : Nat} {a : Addr} {e e1 : E} {o : HO} (he : ρ[i]? = some (some e)) (ho : e.isOwn = true) (hs : σ[i]? = some (some (V.ref a))) (ho1 : e1.isOwn = true)
    (r : AtE K (T.put a o) (.ref a) e1) : Fr K (T.put a o) σ (ρ.set i (some e1)) := by
  obtain ⟨v, h1, h2⟩ := F.val i e he
  rw [hs] at h1
  cases h1
  obtain ⟨b, e2, hi, _⟩ := h2.addr ho
  cases e2
  have nin : e1.inn = [] := by cases e1 <;> first | rfl | cases ho1
  have get : ∀ {j : Nat} {e' : E}, (ρ.set i (some e1))[j]? = some (some e') → e'.isOwn = true → ∃ e0, ρ[j]? = some (some e0) ∧ e0.isOwn = true := fun {j e'} h o' => by
    rcases getset h with ⟨rfl, q⟩ | ⟨n, q⟩
    · exact ⟨e, he, ho⟩
    · exact ⟨e', q, o'⟩
  have getI : ∀ {j : Nat} {e' : E} {b : Addr}, (ρ.set i (some e1))[j]? = some (some e') → b ∈ e'.inn → ρ[j]? = some (some e') := fun {j e' b} h m => by
    rcases getset h with ⟨rfl, q⟩ | ⟨n, q⟩
    · cases q
      rw [nin] at m
      cases m
    · exact q
  refine ⟨F.ok.put hi, by rw [List.length_set, F.len], fun j e' h => ?_, fun j k e' e'' b h1 h2 o1 o2 s1 s2 => ?_, fun j k e' e'' b h1 h2 m1 m2 => F.sepT j k e' e'' b (getI h1 m1) (getI h2 m2) m1 m2, fun j k e' e'' b h1 h2 m1 o2 => ?_⟩
  · rcases getset h with ⟨rfl, q⟩ | ⟨n, q⟩
    · cases q
      exact ⟨_, hs, r⟩
    · obtain ⟨w, w1, w2⟩ := F.val j e' q
      exact ⟨w, w1, w2.put (fun z w' => n (F.sep i j e e' a he q ho z hs (by rw [w1, w']))) (fun m => F.sepO j i e' e a q he m ho hs)⟩
  · obtain ⟨f1, g1, g2⟩ := get h1 o1
    obtain ⟨f2, g3, g4⟩ := get h2 o2
    exact F.sep j k f1 f2 b g1 g3 g2 g4 s1 s2
  · obtain ⟨f2, g3, g4⟩ := get h2 o2
    exact F.sepO j k e' f2 b (getI h1 m1) g3 m1 g4
/-- a node of the tree of name i changes -/
theorem Fr.chgT {K : PySem.W.Frag} {T : W3} {σ : L2.St} {ρ : PEnv} (F : Fr K T σ ρ) {i : Nat} {a : Addr} {l : Lv} {g g1 : G} {o : HO} (he : ρ[i]? = some (some (.tr l g))) (ha : a ∈ adds g) (e : adds g1 = adds g)
    (r : ∀ v, σ[i]? = some (some v) → AtG K (T.at l) T.h v g → AtG K (T.at l) (upd T.h a o) v g1) : Fr K (T.put a o) σ (ρ.set i (some (.tr l g1))) := by
  obtain ⟨v, h1, h2⟩ := F.val i _ he
  have hi := h2.2.2.1 a ha
  have get : ∀ {j : Nat} {e' : E}, (ρ.set i (some (E.tr l g1)))[j]? = some (some e') → ∃ e0, ρ[j]? = some (some e0) ∧ e0.isOwn = e'.isOwn ∧ e0.inn = e'.inn := fun {j e'} h => by
    rcases getset h with ⟨rfl, q⟩ | ⟨n, q⟩
    · cases q
      exact ⟨_, he, rfl, e.symm⟩
    · exact ⟨e', q, rfl, rfl⟩
  refine ⟨F.ok.put hi, by rw [List.length_set, F.len], fun j e' h => ?_, fun j k e' e'' b h1 h2 o1 o2 s1 s2 => ?_, fun j k e' e'' b h1 h2 m1 m2 => ?_, fun j k e' e'' b h1 h2 m1 o2 => ?_⟩
  · rcases getset h with ⟨rfl, q⟩ | ⟨n, q⟩
    · cases q
      refine ⟨v, h1, h2.1, ?_, fun b m => h2.2.2.1 b (by rw [← e]; exact m), by rw [e]; exact h2.2.2.2⟩
      have z := r v h1 h2.2.1
      cases l with
      | full => exact absurd rfl h2.1
      | imm => exact z
      | frs => exact z
    · obtain ⟨w, w1, w2⟩ := F.val j e' q
      exact ⟨w, w1, w2.put (fun z w' => F.sepO i j _ e' a he q ha z (by rw [w1, w'])) (fun m => n (F.sepT i j _ e' a he q ha m))⟩
  · obtain ⟨f1, a1, b1, _⟩ := get h1
    obtain ⟨f2, a2, b2, _⟩ := get h2
    exact F.sep j k f1 f2 b a1 a2 (b1.trans o1) (b2.trans o2) s1 s2
  · obtain ⟨f1, a1, b1, c1⟩ := get h1
    obtain ⟨f2, a2, b2, c2⟩ := get h2
    exact F.sepT j k f1 f2 b a1 a2 (by rw [c1]; exact m1) (by rw [c2]; exact m2)
  · obtain ⟨f1, a1, b1, c1⟩ := get h1
    obtain ⟨f2, a2, b2, c2⟩ := get h2
    exact F.sepO j k f1 f2 b a1 a2 (by rw [c1]; exact m1) (b2.trans o2)
/-- the own thing of name m is kept as it is from now on -/
theorem Fr.keepO {K : PySem.W.Frag} {T : W3} {σ : L2.St} {ρ : PEnv} (F : Fr K T σ ρ) {m : Nat} {a : Addr} {e : E} {o : HO} {d : D} (he : ρ[m]? = some (some e)) (ho : e.isOwn = true) (hs : σ[m]? = some (some (V.ref a))) (hh : T.h a = some o) (hi : T.i a = none)
    (r : Rp K (T.fix a o).n (.ref a) d) : Gw T (T.fix a o) ∧ Fr K (T.fix a o) σ (ρ.set m (some (.v .frs d))) := by
  have hn := F.ok.n_none' hi
  have si : Same T.i (T.fix a o).i := same_new hi
  have sn : Same T.n (T.fix a o).n := same_new hn
  have ok : Ok (T.fix a o) := ⟨same_both F.ok.ni, same_up F.ok.ih hh⟩
  refine ⟨⟨ok, fun _ h => h, si, sn, fun b h1 h2 _ => ?_⟩, ok, by rw [List.length_set, F.len], fun j e' h => ?_, fun j k e' e'' b h1 h2 o1 o2 => ?_, fun j k e' e'' b h1 h2 m1 m2 => ?_, fun j k e' e'' b h1 h2 m1 o2 => ?_⟩
  · show upd T.n a o b = none
    rw [upd_ne (fun z => h2 (by rw [z]; exact hi))]
    exact h1
  · rcases getset h with ⟨rfl, q⟩ | ⟨n, q⟩
    · cases q
      exact ⟨_, hs, by decide, r⟩
    · obtain ⟨w, w1, w2⟩ := F.val j e' q
      refine ⟨w, w1, ?_⟩
      have ni : ∀ b, b ≠ a → T.i b = none → (T.fix a o).i b = none := fun b hb h => by
        show upd T.i a o b = none
        rw [upd_ne hb]
        exact h
      have na : ∀ b, e'.isOwn = true → w = .ref b → b ≠ a := fun b ob hb z => by
        subst z
        subst hb
        exact n (F.sep m j e e' b he q ho ob hs w1)
      have nt : ∀ b, b ∈ e'.inn → b ≠ a := fun b mb z => by
        subst z
        exact F.sepO j m e' e b q he mb ho hs
      cases e' with
      | v l d' =>
        refine ⟨w2.1, ?_⟩
        cases l with
        | full => exact absurd rfl w2.1
        | imm => exact w2.2.mono si
        | frs => exact w2.2.mono sn
      | ownI ns => obtain ⟨b, rfl, h1, h2⟩ := w2; exact ⟨b, rfl, h1, ni b (na b rfl rfl) h2⟩
      | own l ds =>
        obtain ⟨z, b, vs, rfl, h1, h2, rr⟩ := w2
        refine ⟨z, b, vs, rfl, h1, ni b (na b rfl rfl) h2, ?_⟩
        cases l with
        | full => exact absurd rfl z
        | imm => exact rr.mono si
        | frs => exact rr.mono sn
      | dI l ds =>
        obtain ⟨z, b, vs, rfl, h1, h2, rr⟩ := w2
        refine ⟨z, b, vs, rfl, h1, ni b (na b rfl rfl) h2, ?_⟩
        cases l with
        | full => exact absurd rfl z
        | imm => exact rr.mono si
        | frs => exact rr.mono sn
      | dT l ds =>
        obtain ⟨z, b, vs, rfl, h1, h2, rr⟩ := w2
        refine ⟨z, b, vs, rfl, h1, ni b (na b rfl rfl) h2, ?_⟩
        cases l with
        | full => exact absurd rfl z
        | imm => exact rr.mono si
        | frs => exact rr.mono sn
      | dF b o' ws l kvs =>
        obtain ⟨z, rfl, h1, h2, rr⟩ := w2
        refine ⟨z, rfl, h1, ni b (na b rfl rfl) h2, ?_⟩
        cases l with
        | full => exact absurd rfl z
        | imm => exact rr.mono si
        | frs => exact rr.mono sn
      | tr l g =>
        refine ⟨w2.1, ?_, fun b mb => ni b (nt b mb) (w2.2.2.1 b mb), w2.2.2.2⟩
        cases l with
        | full => exact absurd rfl w2.1
        | imm => exact w2.2.1.mono si (Same.refl _)
        | frs => exact w2.2.1.mono sn (Same.refl _)
  · rcases getset h1 with ⟨_, q⟩ | ⟨n1, q1⟩
    · cases q; cases o1
    · rcases getset h2 with ⟨_, q⟩ | ⟨n2, q2⟩
      · cases q; cases o2
      · exact F.sep j k e' e'' b q1 q2 o1 o2
  · rcases getset h1 with ⟨_, q⟩ | ⟨n1, q1⟩
    · cases q; cases m1
    · rcases getset h2 with ⟨_, q⟩ | ⟨n2, q2⟩
      · cases q; cases m2
      · exact F.sepT j k e' e'' b q1 q2 m1 m2
  · rcases getset h1 with ⟨_, q⟩ | ⟨n1, q1⟩
    · cases q; cases m1
    · rcases getset h2 with ⟨_, q⟩ | ⟨n2, q2⟩
      · cases q; cases o2
      · exact F.sepO j k e' e'' b q1 q2 m1 o2
/-- fewer names are spoken of -/
theorem Fr.forget {K : PySem.W.Frag} {T : W3} {σ : L2.St} {ρ ρ' : PEnv} (F : Fr K T σ ρ) (hl : ρ'.length = ρ.length) (h : ∀ (i : Nat) (e : E), ρ'[i]? = some (some e) → ρ[i]? = some (some e)) : Fr K T σ ρ' :=
  ⟨F.ok, F.len.trans hl.symm, fun i e q => F.val i e (h i e q), fun i j e e' a h1 h2 => F.sep i j e e' a (h i e h1) (h j e' h2), fun i j e e' a h1 h2 => F.sepT i j e e' a (h i e h1) (h j e' h2), fun i j e e' a h1 h2 => F.sepO i j e e' a (h i e h1) (h j e' h2)⟩

/-! ### judgements -/
def wE (X : Cx) (e : Expr) : TE := fun σ H Q => ∀ pins s, Inv X pins σ H s → wpAny (model X.prog X.w) X.A (eval e X.env) (EP X pins σ Q) X.xe s
def wT (X : Cx) (e : Expr) : TT := fun σ H Q => ∀ pins s, Inv X pins σ H s → wpAny (model X.prog X.w) X.A (isTrue e X.env (eval e X.env)) (TP X pins σ Q) X.xe s
def wW (X : Cx) (e : Expr) : TT := fun σ H Q => ∀ (whole : Sem Value) pins s, Inv X pins σ H s → wpAny (model X.prog X.w) X.A (isTrue e X.env whole) (TP X pins σ Q) X.xe s
def wA (X : Cx) (es : List Expr) : TA := fun σ H Q => ∀ (pos : Pos) pins s, Inv X pins σ H s → wpAny (model X.prog X.w) X.A (spliced (backTo pos (starEach es X.env))) (AP X pins σ Q) X.xe s
def wS (X : Cx) (st : Stmt) : TS := fun D σ H => ∀ pins s, Inv X pins σ H s → wpAny (model X.prog X.w) X.A (exec st X.env) (SP X pins D) X.xe s
def wSs (X : Cx) (st : List Stmt) : TS := fun D σ H => ∀ pins s, Inv X pins σ H s → wpAny (model X.prog X.w) X.A (execs st X.env) (SP X pins D) X.xe s
theorem pe_w {X : Cx} {e : Expr} : PE X e (wE X e) := ⟨fun pins s σ H Q I h => h pins s I⟩
theorem pt_w {X : Cx} {e : Expr} : PT X e (wT X e) := ⟨fun pins s σ H Q I h => h pins s I⟩
theorem pw_w {X : Cx} {e : Expr} : PW X e (wW X e) := ⟨fun wh pins s σ H Q I h => h wh pins s I⟩
theorem pa_w {X : Cx} {es : List Expr} : PA X es (wA X es) := ⟨fun pos pins s σ H Q I h => h pos pins s I⟩
theorem ps_w {X : Cx} {st : Stmt} : PS X st (wS X st) := ⟨fun pins s σ H D I h => h pins s I⟩
theorem pss_w {X : Cx} {st : List Stmt} : PSs X st (wSs X st) := ⟨fun pins s σ H D I h => h pins s I⟩

/-- e comes to d, held at l -/
def JE (X : Cx) (l : Lv) (e : Expr) (ρ : PEnv) (d : D) : Prop :=
  ∀ (T : W3) (σ : L2.St) (Q : VK), Fr X.K T σ ρ → (∀ v T', Grow T T' → Rp X.K (T'.at l) v d → Q v T'.h) → wE X e σ T.h Q
/-- a test comes to b -/
def JT (X : Cx) (e : Expr) (ρ : PEnv) (b : Bool) : Prop :=
  ∀ (T : W3) (σ : L2.St) (Q : Bool → Hp → Prop), Fr X.K T σ ρ → (∀ T', Grow T T' → Q b T'.h) → wT X e σ T.h Q
def JW (X : Cx) (e : Expr) (ρ : PEnv) (b : Bool) : Prop :=
  ∀ (T : W3) (σ : L2.St) (Q : Bool → Hp → Prop), Fr X.K T σ ρ → (∀ T', Grow T T' → Q b T'.h) → wW X e σ T.h Q
def JA (X : Cx) (l : Lv) (es : List Expr) (ρ : PEnv) (ds : List D) : Prop :=
  ∀ (T : W3) (σ : L2.St) (Q : List V → Hp → Prop), Fr X.K T σ ρ → (∀ vs T', Grow T T' → RpAll X.K (T'.at l) vs ds → Q vs T'.h) → wA X es σ T.h Q
/-- e comes to a new list of il; a new list -/
def JOI (X : Cx) (e : Expr) (ρ : PEnv) (ns : List Int) : Prop :=
  ∀ (T : W3) (σ : L2.St) (Q : VK), Fr X.K T σ ρ → (∀ a T', Grow T T' → T.h a = none → T'.i a = none → T'.h a = some (.lst (ns.map V.int)) → Q (.ref a) T'.h) → wE X e σ T.h Q
def JO (X : Cx) (l : Lv) (e : Expr) (ρ : PEnv) (ds : List D) : Prop :=
  ∀ (T : W3) (σ : L2.St) (Q : VK), Fr X.K T σ ρ → (∀ a vs T', Grow T T' → T.h a = none → T'.i a = none → T'.h a = some (.lst vs) → RpAll X.K (T'.at l) vs ds → Q (.ref a) T'.h) → wE X e σ T.h Q
structure PEnds where
  nx : PEnv → Prop
  rt : D → Prop
  bk : PEnv → Prop := fun _ => False
  ct : PEnv → Prop := fun _ => False
  ru : D → Prop := fun _ => False
  rf : PEnv → D → Prop := fun _ _ => False
/-- how pure ends are met -/
structure Meets (K : PySem.W.Frag) (T : W3) (P : PEnds) (D : Ends) : Prop where
  nx : ∀ ρ σ T', Gw T T' → Fr K T' σ ρ → P.nx ρ → D.nx σ T'.h
  rt : ∀ d v T', Gw T T' → P.rt d → Rp K T'.n v d → D.rt v T'.h
  bk : ∀ ρ σ T', Gw T T' → Fr K T' σ ρ → P.bk ρ → D.bk σ T'.h
  ct : ∀ ρ σ T', Gw T T' → Fr K T' σ ρ → P.ct ρ → D.ct σ T'.h
  ru : ∀ g v T', Gw T T' → P.ru (erase g) → AtG K T'.n T'.h v g → (∀ b, b ∈ adds g → T'.i b = none) → Nd g → D.rt v T'.h
  rf : ∀ ρ σ d v T', Gw T T' → Fr K T' σ ρ → P.rf ρ d → Rp K T'.n v d → D.rt v T'.h
theorem Meets.gw {K : PySem.W.Frag} {T T1 : W3} {P : PEnds} {D : Ends} (m : Meets K T P D) (g : Gw T T1) : Meets K T1 P D :=
  ⟨fun ρ σ T' g' => m.nx ρ σ T' (g.trans g'), fun d v T' g' => m.rt d v T' (g.trans g'), fun ρ σ T' g' => m.bk ρ σ T' (g.trans g'), fun ρ σ T' g' => m.ct ρ σ T' (g.trans g'), fun t v T' g' p r q nd => m.ru t v T' (g.trans g') p r q nd, fun ρ σ d v T' g' => m.rf ρ σ d v T' (g.trans g')⟩
def JS (X : Cx) (st : Stmt) (P : PEnds) (ρ : PEnv) : Prop := ∀ (T : W3) (σ : L2.St) (D : Ends), Fr X.K T σ ρ → Meets X.K T P D → wS X st D σ T.h
def JSs (X : Cx) (st : List Stmt) (P : PEnds) (ρ : PEnv) : Prop := ∀ (T : W3) (σ : L2.St) (D : Ends), Fr X.K T σ ρ → Meets X.K T P D → wSs X st D σ T.h

section
variable {X : Cx} {e a b c : Expr} {es : List Expr} {ρ : PEnv} {d d1 d2 d3 : D} {l la lb lc : Lv} {pos : Pos}

theorem JE.of {te : TE} (h : PE X e te) (r : ∀ (T : W3) (σ : L2.St) (Q : VK), Fr X.K T σ ρ → (∀ v T', Grow T T' → Rp X.K (T'.at l) v d → Q v T'.h) → te σ T.h Q) : JE X l e ρ d :=
  fun T σ Q F q pins s I => h.run pins s σ T.h Q I (r T σ Q F q)
theorem JT.of {tt : TT} {v : Bool} (h : PT X e tt) (r : ∀ (T : W3) (σ : L2.St) (Q : Bool → Hp → Prop), Fr X.K T σ ρ → (∀ T', Grow T T' → Q v T'.h) → tt σ T.h Q) : JT X e ρ v :=
  fun T σ Q F q pins s I => h.run pins s σ T.h Q I (r T σ Q F q)
theorem JW.of {tt : TT} {v : Bool} (h : PW X e tt) (r : ∀ (T : W3) (σ : L2.St) (Q : Bool → Hp → Prop), Fr X.K T σ ρ → (∀ T', Grow T T' → Q v T'.h) → tt σ T.h Q) : JW X e ρ v :=
  fun T σ Q F q wh pins s I => h.run wh pins s σ T.h Q I (r T σ Q F q)
theorem JW.pt {v : Bool} (h : JW X e ρ v) : JT X e ρ v := JT.of pw_w.pt h
theorem JA.of {ds : List D} {ta : TA} (h : PA X es ta) (r : ∀ (T : W3) (σ : L2.St) (Q : List V → Hp → Prop), Fr X.K T σ ρ → (∀ vs T', Grow T T' → RpAll X.K (T'.at l) vs ds → Q vs T'.h) → ta σ T.h Q) : JA X l es ρ ds :=
  fun T σ Q F q pos pins s I => h.run pos pins s σ T.h Q I (r T σ Q F q)
theorem JOI.of {te : TE} {ns : List Int} (h : PE X e te) (r : ∀ (T : W3) (σ : L2.St) (Q : VK), Fr X.K T σ ρ → (∀ a T', Grow T T' → T.h a = none → T'.i a = none → T'.h a = some (.lst (ns.map V.int)) → Q (.ref a) T'.h) → te σ T.h Q) : JOI X e ρ ns :=
  fun T σ Q F q pins s I => h.run pins s σ T.h Q I (r T σ Q F q)
theorem JO.of {te : TE} {ds : List D} (h : PE X e te) (r : ∀ (T : W3) (σ : L2.St) (Q : VK), Fr X.K T σ ρ → (∀ a vs T', Grow T T' → T.h a = none → T'.i a = none → T'.h a = some (.lst vs) → RpAll X.K (T'.at l) vs ds → Q (.ref a) T'.h) → te σ T.h Q) : JO X l e ρ ds :=
  fun T σ Q F q pins s I => h.run pins s σ T.h Q I (r T σ Q F q)
theorem JS.of {st : Stmt} {ts : TS} {P : PEnds} (h : PS X st ts) (r : ∀ (T : W3) (σ : L2.St) (D : Ends), Fr X.K T σ ρ → Meets X.K T P D → ts D σ T.h) : JS X st P ρ :=
  fun T σ D F m pins s I => h.run pins s σ T.h D I (r T σ D F m)
theorem JSs.of {st : List Stmt} {ts : TS} {P : PEnds} (h : PSs X st ts) (r : ∀ (T : W3) (σ : L2.St) (D : Ends), Fr X.K T σ ρ → Meets X.K T P D → ts D σ T.h) : JSs X st P ρ :=
  fun T σ D F m pins s I => h.run pins s σ T.h D I (r T σ D F m)
theorem JE.up {l' : Lv} (h : JE X l e ρ d) (z : Lv.le l l' = true) : JE X l' e ρ d := fun T σ Q F q => h T σ Q F fun v T' g r => q v T' g (r.mono (g.ok.le z))
theorem JE.sc {l' : Lv} (h : JE X l e ρ d) (z : scal d = true) : JE X l' e ρ d := fun T σ Q F q => h T σ Q F fun v T' g r => q v T' g (r.scal z)
/-- a new list is kept -/
theorem JOI.je {ns : List Int} (h : JOI X e ρ ns) : JE X .frs e ρ (.il ns) := fun T σ Q F q => h T σ Q F fun a T' g h0 hi hh =>
  q (.ref a) (T'.fix a _) (g.fix h0 hi hh) (.il upd_same)
theorem JO.je {ds : List D} (h : JO X l e ρ ds) (z : Lv.le l .imm = true := by rfl) : JE X l e ρ (.lst ds) := fun T σ Q F q => h T σ Q F fun a vs T' g h0 hi hh r => by
  cases l with
  | full => cases z
  | imm => exact q (.ref a) (T'.fixI a _) (g.fixI h0 hi hh) (.lst upd_same (r.mono (same_new hi)))
  | frs => exact q (.ref a) (T'.fix a _) (g.fix h0 hi hh) (.lst upd_same (r.mono (same_new (g.ok.n_none' hi))))
theorem JO.full {ds : List D} (h : JO X l e ρ ds) : JE X .full e ρ (.lst ds) := fun T σ Q F q => h T σ Q F fun a vs T' g h0 hi hh r => q (.ref a) T' g (.lst hh (r.mono g.ok.full))
theorem JO.up {l' : Lv} {ds : List D} (h : JO X l e ρ ds) (z : Lv.le l l' = true) : JO X l' e ρ ds := fun T σ Q F q => h T σ Q F fun a vs T' g h0 hi hh r => q a vs T' g h0 hi hh (r.mono (g.ok.le z))

/-! ### names and constants -/
theorem je_v (i : Nat) {x : Str} (hr : ρ[i]? = some (some (.v l d))) (hN : X.N[i]? = some x := by rfl) (hv : Vis X.env.scope x := by first | exact Or.inl rfl | exact Or.inr (Or.inl rfl) | exact Or.inr (Or.inr rfl)) (hd : (x == ("__debug__" : Str)) = false := by decide)
    (hcd : (x == ("__classdict__" : Str)) = false := by decide) : JE X l (.Name x pos) ρ d :=
  JE.of (pe_var hN hv hd hcd) fun T σ Q F q => by
    obtain ⟨v, h1, h2⟩ := F.val i _ hr
    exact ⟨v, h1, q v T (Grow.refl F.ok) h2.2⟩
/-- an own thing, read -/
theorem je_oI (i : Nat) {x : Str} {ns : List Int} (hr : ρ[i]? = some (some (.ownI ns))) (hN : X.N[i]? = some x := by rfl) (hv : Vis X.env.scope x := by first | exact Or.inl rfl | exact Or.inr (Or.inl rfl) | exact Or.inr (Or.inr rfl)) (hd : (x == ("__debug__" : Str)) = false := by decide)
    (hcd : (x == ("__classdict__" : Str)) = false := by decide) : JE X .full (.Name x pos) ρ (.il ns) :=
  JE.of (pe_var hN hv hd hcd) fun T σ Q F q => by
    obtain ⟨v, h1, a, rfl, h2, h3⟩ := F.val i _ hr
    exact ⟨_, h1, q _ T (Grow.refl F.ok) (.il h2)⟩
theorem je_o (i : Nat) {x : Str} {ds : List D} (hr : ρ[i]? = some (some (.own l ds))) (hN : X.N[i]? = some x := by rfl) (hv : Vis X.env.scope x := by first | exact Or.inl rfl | exact Or.inr (Or.inl rfl) | exact Or.inr (Or.inr rfl)) (hd : (x == ("__debug__" : Str)) = false := by decide)
    (hcd : (x == ("__classdict__" : Str)) = false := by decide) : JE X .full (.Name x pos) ρ (.lst ds) :=
  JE.of (pe_var hN hv hd hcd) fun T σ Q F q => by
    obtain ⟨v, h1, _, a, vs, rfl, h2, h3, r⟩ := F.val i _ hr
    exact ⟨_, h1, q _ T (Grow.refl F.ok) (.lst h2 (r.mono F.ok.full))⟩
theorem je_int {i : Int} {j : Nat} : JE X .frs (.Constant (.int i) j pos) ρ (.int i) := JE.of pe_int fun T σ Q F q => q _ T (Grow.refl F.ok) (.int i)
theorem je_bl {i : Bool} {j : Nat} : JE X .frs (.Constant (.bool i) j pos) ρ (.bl i) := JE.of pe_bl fun T σ Q F q => q _ T (Grow.refl F.ok) (.bl i)
theorem je_non {j : Nat} : JE X .frs (.Constant .none j pos) ρ .non := JE.of pe_non fun T σ Q F q => q _ T (Grow.refl F.ok) .non
theorem je_str {x : Str} {j : Nat} : JE X .frs (.Constant (.str x) j pos) ρ (.str x) := JE.of pe_str fun T σ Q F q => q _ T (Grow.refl F.ok) (.str x)

/-! ### operators -/
theorem je_op {op : Operator} {r : R2} (ho : OpR X (binaryOp op) r) (ha : JE X la a ρ d1) (hb : JE X lb b ρ d2)
    (hr : ∀ (T : W3) v u (Q : VK), Ok T → Rp X.K T.h v d1 → Rp X.K T.h u d2 → (∀ w T', Grow T T' → Rp X.K (T'.at l) w d3 → Q w T'.h) → r v u T.h Q) : JE X l (.BinOp a op b pos) ρ d3 :=
  JE.of (pe_op ho pe_w pe_w) fun T σ Q F q => ha T σ _ F fun v T1 g1 r1 => hb T1 σ _ (F.grow g1) fun u T2 g2 r2 =>
    hr T2 v u Q g2.ok ((r1.mono g1.ok.full).mono g2.ex) (r2.mono g2.ok.full) fun w T3 g3 r3 => q w T3 ((g1.trans g2).trans g3) r3
theorem je_cmp {op : CmpOp} {r : R2} (ho : OpR X (compareOp op) r) (ha : JE X la a ρ d1) (hb : JE X lb b ρ d2) (hm : behindInMarks op b = false)
    (hr : ∀ (T : W3) v u (Q : VK), Ok T → Rp X.K T.h v d1 → Rp X.K T.h u d2 → (∀ w T', Grow T T' → Rp X.K (T'.at l) w d3 → Q w T'.h) → r v u T.h Q) : JE X l (.Compare a [op] [b] pos) ρ d3 :=
  JE.of (pe_cmpR ho pe_w pe_w hm) fun T σ Q F q => ha T σ _ F fun v T1 g1 r1 => hb T1 σ _ (F.grow g1) fun u T2 g2 r2 =>
    hr T2 v u Q g2.ok ((r1.mono g1.ok.full).mono g2.ex) (r2.mono g2.ok.full) fun w T3 g3 r3 => q w T3 ((g1.trans g2).trans g3) r3
theorem r_I0 {g : Int → Int → V} {g' : Int → Int → D} (hg : ∀ i j H, Rp X.K H (g i j) (g' i j)) {i j : Int} (T : W3) (v u : V) (Q : VK) (o : Ok T) (r1 : Rp X.K T.h v (.int i)) (r2 : Rp X.K T.h u (.int j)) (q : ∀ w T', Grow T T' → Rp X.K (T'.at .frs) w (g' i j) → Q w T'.h) : rI0 g v u T.h Q := by
  cases r1
  cases r2
  exact ⟨i, j, rfl, rfl, q _ T (Grow.refl o) (hg i j _)⟩
theorem r_I {C : Int → Int → Prop} {g : Int → Int → V} {g' : Int → Int → D} (hg : ∀ i j H, Rp X.K H (g i j) (g' i j)) {i j : Int} (hc : C i j) (T : W3) (v u : V) (Q : VK) (o : Ok T) (r1 : Rp X.K T.h v (.int i)) (r2 : Rp X.K T.h u (.int j)) (q : ∀ w T', Grow T T' → Rp X.K (T'.at .frs) w (g' i j) → Q w T'.h) : rI C g v u T.h Q := by
  cases r1
  cases r2
  exact ⟨i, j, rfl, rfl, hc, q _ T (Grow.refl o) (hg i j _)⟩
variable {i j : Int}
theorem je_add (ha : JE X la a ρ (.int i)) (hb : JE X lb b ρ (.int j)) : JE X .frs (.BinOp a .Add b pos) ρ (.int (i + j)) := je_op op_add ha hb (r_I0 (g' := fun i j => .int (i + j)) fun _ _ _ => .int _)
theorem je_sub (ha : JE X la a ρ (.int i)) (hb : JE X lb b ρ (.int j)) : JE X .frs (.BinOp a .Sub b pos) ρ (.int (i - j)) := je_op op_sub ha hb (r_I0 (g' := fun i j => .int (i - j)) fun _ _ _ => .int _)
theorem je_mul (ha : JE X la a ρ (.int i)) (hb : JE X lb b ρ (.int j)) (hc : CMul i j) : JE X .frs (.BinOp a .Mult b pos) ρ (.int (i * j)) := je_op op_mul ha hb (r_I (g' := fun i j => .int (i * j)) (fun _ _ _ => .int _) hc)
theorem je_mulW (ha : JE X la a ρ (.int i)) (hb : JE X lb b ρ (.int j)) (hc : CMulW i j) : JE X .frs (.BinOp a .Mult b pos) ρ (.int (i * j)) := je_op op_mulW ha hb (r_I (g' := fun i j => .int (i * j)) (fun _ _ _ => .int _) hc)
theorem je_pow (ha : JE X la a ρ (.int i)) (hb : JE X lb b ρ (.int j)) (hc : CPow i j) : JE X .frs (.BinOp a .Pow b pos) ρ (.int (i ^ j.toNat)) := je_op op_pow ha hb (r_I (g' := fun i j => .int (i ^ j.toNat)) (fun _ _ _ => .int _) hc)
theorem je_mod (ha : JE X la a ρ (.int i)) (hb : JE X lb b ρ (.int j)) (hc : 0 < j) : JE X .frs (.BinOp a .Mod b pos) ρ (.int (i % j)) := je_op op_mod ha hb (r_I (g' := fun i j => .int (i % j)) (fun _ _ _ => .int _) hc)
theorem je_div (ha : JE X la a ρ (.int i)) (hb : JE X lb b ρ (.int j)) (hc : CDiv i j) : JE X .frs (.BinOp a .FloorDiv b pos) ρ (.int (i / j)) := je_op op_fdiv ha hb (r_I (g' := fun i j => .int (i / j)) (fun _ _ _ => .int _) hc)
theorem je_lt (ha : JE X la a ρ (.int i)) (hb : JE X lb b ρ (.int j)) : JE X .frs (.Compare a [.Lt] [b] pos) ρ (.bl (decide (i < j))) := je_cmp op_lt ha hb (nomark _) (r_I0 (g' := fun i j => .bl (decide (i < j))) fun _ _ _ => .bl _)
theorem je_le (ha : JE X la a ρ (.int i)) (hb : JE X lb b ρ (.int j)) : JE X .frs (.Compare a [.LtE] [b] pos) ρ (.bl (decide (i ≤ j))) := je_cmp op_le ha hb (nomark _) (r_I0 (g' := fun i j => .bl (decide (i ≤ j))) fun _ _ _ => .bl _)
theorem je_gt (ha : JE X la a ρ (.int i)) (hb : JE X lb b ρ (.int j)) : JE X .frs (.Compare a [.Gt] [b] pos) ρ (.bl (decide (j < i))) := je_cmp op_gt ha hb (nomark _) (r_I0 (g' := fun i j => .bl (decide (j < i))) fun _ _ _ => .bl _)
theorem je_ge (ha : JE X la a ρ (.int i)) (hb : JE X lb b ρ (.int j)) : JE X .frs (.Compare a [.GtE] [b] pos) ρ (.bl (decide (j ≤ i))) := je_cmp op_ge ha hb (nomark _) (r_I0 (g' := fun i j => .bl (decide (j ≤ i))) fun _ _ _ => .bl _)
theorem je_neg (ha : JE X la a ρ (.int i)) : JE X .frs (.UnaryOp .USub a pos) ρ (.int (-i)) := JE.of (pe_un un_neg pe_w) fun T σ Q F q => ha T σ _ F fun v T1 g1 r1 => by
  cases r1
  exact ⟨i, rfl, q _ T1 g1 (.int _)⟩

/-! ### == by pure data -/
mutual
def py : D → PyData
  | .non => .none
  | .bl b => .bool b
  | .int i => .int i
  | .str x => .str x
  | .il ns => .list (ns.map PyData.int)
  | .scr ns => .list (ns.map PyData.int)
  | .lst ds => .list (pys ds)
  | .tup ds => .tuple (pys ds)
  | .obj _ _ => .none
  | .ptr _ => .none
  | .dic => .none
def pys : List D → List PyData
  | [] => []
  | d :: r => py d :: pys r
end
mutual
def plain : D → Bool
  | .non => true
  | .bl _ => true
  | .int _ => true
  | .str _ => true
  | .il _ => true
  | .scr _ => true
  | .lst ds => plains ds
  | .tup ds => plains ds
  | .obj _ _ => false
  | .ptr _ => false
  | .dic => false
def plains : List D → Bool
  | [] => true
  | d :: r => plain d && plains r
end
theorem DpAll.il {K : PySem.W.Frag} {H : Hp} : ∀ (ns : List Int), DpAll K H (ns.map V.int) (ns.map PyData.int)
  | [] => .nil
  | n :: r => .cons (.int n) (DpAll.il r)
mutual
theorem Rp.dp {K : PySem.W.Frag} {H : Hp} : ∀ {v : V} {d : D}, Rp K H v d → plain d = true → Dp K H v (py d)
  | _, _, .non, _ => by rw [py]; exact .non
  | _, _, .bl b, _ => by rw [py]; exact .bl b
  | _, _, .int i, _ => by rw [py]; exact .int i
  | _, _, .str x, _ => by rw [py]; exact .str x
  | _, _, .il (ns := ns) h, _ => by rw [py]; exact .lst (SqL.of h) (DpAll.il ns)
  | _, _, .scr (ns := ns) h, _ => by rw [py]; exact .lst h (DpAll.il ns)
  | _, _, .lst h r, p => by rw [py]; exact .lst (SqL.of h) (RpAll.dp r (by rw [plain] at p; exact p))
  | _, _, .tup h r, p => by rw [py]; exact .tup (SqT.of h) (RpAll.dp r (by rw [plain] at p; exact p))
  | _, _, .obj h r, p => by rw [plain] at p; cases p
theorem RpAll.dp {K : PySem.W.Frag} {H : Hp} : ∀ {vs : List V} {ds : List D}, RpAll K H vs ds → plains ds = true → DpAll K H vs (pys ds)
  | _, _, .nil, _ => by rw [pys]; exact .nil
  | _, _, .cons h r, p => by
    rw [pys]
    rw [plains, Bool.and_eq_true] at p
    exact .cons (Rp.dp h p.1) (RpAll.dp r p.2)
end
def eqD (d e : D) : Bool := PyData.eqv (py d) (py e)
theorem je_eqD (hu : X.A.units + 64 < cLine) (ha : JE X la a ρ d1) (hb : JE X lb b ρ d2) (p1 : plain d1 = true) (p2 : plain d2 = true) (s1 : SeqAt.shaped (py d1) = true) (s2 : SeqAt.shaped (py d2) = true) :
    JE X .frs (.Compare a [.Eq] [b] pos) ρ (.bl (eqD d1 d2)) :=
  je_cmp (op_eqD hu) ha hb (nomark _) fun T v u Q o r1 r2 q => ⟨_, _, r1.dp p1, r2.dp p2, s1, s2, q _ T (Grow.refl o) (.bl _)⟩
theorem je_neD (hu : X.A.units + 64 < cLine) (ha : JE X la a ρ d1) (hb : JE X lb b ρ d2) (p1 : plain d1 = true) (p2 : plain d2 = true) (s1 : SeqAt.shaped (py d1) = true) (s2 : SeqAt.shaped (py d2) = true) :
    JE X .frs (.Compare a [.NotEq] [b] pos) ρ (.bl (!eqD d1 d2)) :=
  je_cmp (op_neD hu) ha hb (nomark _) fun T v u Q o r1 r2 q => ⟨_, _, r1.dp p1, r2.dp p2, s1, s2, q _ T (Grow.refl o) (.bl _)⟩
end
end Lf

set_option Elab.async false
set_option linter.all false
set_option maxRecDepth 100000
set_option maxHeartbeats 2000000
set_option autoImplicit false
namespace Lf
open PySem L2
section
variable {X : Cx} {e a b c : Expr} {es : List Expr} {ρ : PEnv} {d d1 d2 d3 : D} {l la lb lc : Lv} {pos : Pos} {i j k : Int} {ns ms : List Int} {ds : List D} {kt : Nat}

/-! ### comparisons -/
def wC (X : Cx) (op : CmpOp) (a b : Expr) : TE := fun σ H Q => ∀ pins s, Inv X pins σ H s →
    wpAny (model X.prog X.w) X.A (eval a X.env) (fun v s₁ => wpAny (model X.prog X.w) X.A (eval b X.env) (fun u s₂ => wpAny (model X.prog X.w) X.A (compareOp op v u) (EP X pins σ Q) X.xe s₂) X.xe s₁) X.xe s
theorem pc_w {op : CmpOp} : PC X op a b (wC X op a b) := ⟨fun pins s σ H Q I h => h pins s I⟩
/-- a op b comes to v -/
def JC (X : Cx) (op : CmpOp) (a b : Expr) (ρ : PEnv) (v : Bool) : Prop :=
  ∀ (T : W3) (σ : L2.St) (Q : VK), Fr X.K T σ ρ → (∀ T', Grow T T' → Q (.bl v) T'.h) → wC X op a b σ T.h Q
theorem jc_of {op : CmpOp} {r : R2} {v : Bool} (ho : OpR X (compareOp op) r) (ha : JE X la a ρ d1) (hb : JE X lb b ρ d2)
    (hr : ∀ (T : W3) x u (Q : VK), Ok T → Rp X.K T.h x d1 → Rp X.K T.h u d2 → (∀ T', Grow T T' → Q (.bl v) T'.h) → r x u T.h Q) : JC X op a b ρ v :=
  fun T σ Q F q pins s I => by
    refine bin (ta := wE X a) (tb := wE X b) pe_w pe_w I (R := fun x y H2 => r x y H2 Q) ?_ fun v u s2 x y H2 I2 rx ry h => ho pins s2 σ H2 x y v u Q I2 rx ry h
    exact ha T σ _ F fun v T1 g1 r1 => hb T1 σ _ (F.grow g1) fun u T2 g2 r2 =>
      hr T2 v u Q g2.ok ((r1.mono g1.ok.full).mono g2.ex) (r2.mono g2.ok.full) fun T3 g3 => q T3 ((g1.trans g2).trans g3)
theorem je_c {op : CmpOp} {v : Bool} (h : JC X op a b ρ v) (h1 : behindInMarks op b = false := by exact bm_ns rfl) : JE X .frs (.Compare a [op] [b] pos) ρ (.bl v) :=
  JE.of (pe_cmp pc_w h1) fun T σ Q F q => h T σ Q F fun T' g => q _ T' g (.bl v)
theorem jt_c {op : CmpOp} {v : Bool} (h : JC X op a b ρ v) (h1 : behindInMarks op b = false := by exact bm_ns rfl) : JT X (.Compare a [op] [b] pos) ρ v :=
  JT.of (pt_cmp pc_w h1) fun T σ Q F q => h T σ _ F fun T' g => ⟨v, rfl, q T' g⟩
theorem jc_I0 {op : CmpOp} {g : Int → Int → Bool} (ho : OpR X (compareOp op) (rI0 fun i j => .bl (g i j))) (ha : JE X la a ρ (.int i)) (hb : JE X lb b ρ (.int j)) : JC X op a b ρ (g i j) :=
  jc_of ho ha hb fun T x u Q o r1 r2 q => by
    cases r1
    cases r2
    exact ⟨i, j, rfl, rfl, q T (Grow.refl o)⟩
theorem jc_lt (ha : JE X la a ρ (.int i)) (hb : JE X lb b ρ (.int j)) : JC X .Lt a b ρ (decide (i < j)) := jc_I0 (g := fun i j => decide (i < j)) op_lt ha hb
theorem jc_le (ha : JE X la a ρ (.int i)) (hb : JE X lb b ρ (.int j)) : JC X .LtE a b ρ (decide (i ≤ j)) := jc_I0 (g := fun i j => decide (i ≤ j)) op_le ha hb
theorem jc_gt (ha : JE X la a ρ (.int i)) (hb : JE X lb b ρ (.int j)) : JC X .Gt a b ρ (decide (j < i)) := jc_I0 (g := fun i j => decide (j < i)) op_gt ha hb
theorem jc_ge (ha : JE X la a ρ (.int i)) (hb : JE X lb b ρ (.int j)) : JC X .GtE a b ρ (decide (j ≤ i)) := jc_I0 (g := fun i j => decide (j ≤ i)) op_ge ha hb
theorem jc_eq (ha : JE X la a ρ (.int i)) (hb : JE X lb b ρ (.int j)) : JC X .Eq a b ρ (decide (i = j)) :=
  jc_of op_eq ha hb fun T x u Q o r1 r2 q => by
    cases r1
    cases r2
    refine ⟨rfl, ?_⟩
    rw [show decide (V.int i = V.int j) = decide (i = j) from decide_eq_decide.mpr ⟨fun h => V.int.inj h, fun h => by rw [h]⟩]
    exact q T (Grow.refl o)
theorem jc_ne (ha : JE X la a ρ (.int i)) (hb : JE X lb b ρ (.int j)) : JC X .NotEq a b ρ (!decide (i = j)) :=
  jc_of op_ne ha hb fun T x u Q o r1 r2 q => by
    cases r1
    cases r2
    refine ⟨rfl, ?_⟩
    rw [show decide (V.int i = V.int j) = decide (i = j) from decide_eq_decide.mpr ⟨fun h => V.int.inj h, fun h => by rw [h]⟩]
    exact q T (Grow.refl o)
theorem jc_eqB {p q : Bool} (ha : JE X la a ρ (.bl p)) (hb : JE X lb b ρ (.bl q)) : JC X .Eq a b ρ (p == q) :=
  jc_of op_eq ha hb fun T x u Q o r1 r2 z => by
    cases r1
    cases r2
    refine ⟨rfl, ?_⟩
    rw [dec_bl]
    exact z T (Grow.refl o)
theorem jc_neB {p q : Bool} (ha : JE X la a ρ (.bl p)) (hb : JE X lb b ρ (.bl q)) : JC X .NotEq a b ρ (!(p == q)) :=
  jc_of op_ne ha hb fun T x u Q o r1 r2 z => by
    cases r1
    cases r2
    refine ⟨rfl, ?_⟩
    rw [dec_bl]
    exact z T (Grow.refl o)
theorem jc_isB {p q : Bool} (ha : JE X la a ρ (.bl p)) (hb : JE X lb b ρ (.bl q)) : JC X .Is a b ρ (p == q) :=
  jc_of op_isBl ha hb fun T x u Q o r1 r2 z => by
    cases r1
    cases r2
    refine ⟨p, q, rfl, rfl, ?_⟩
    rw [show decide (p = q) = (p == q) by cases p <;> cases q <;> rfl]
    exact z T (Grow.refl o)
theorem jc_isnotB {p q : Bool} (ha : JE X la a ρ (.bl p)) (hb : JE X lb b ρ (.bl q)) : JC X .IsNot a b ρ (!(p == q)) :=
  jc_of op_notBl ha hb fun T x u Q o r1 r2 z => by
    cases r1
    cases r2
    refine ⟨p, q, rfl, rfl, ?_⟩
    rw [show decide (p = q) = (p == q) by cases p <;> cases q <;> rfl]
    exact z T (Grow.refl o)
/-- == of pure data -/
theorem jc_eqD (hu : X.A.units + 64 < cLine) (ha : JE X la a ρ d1) (hb : JE X lb b ρ d2) (p1 : plain d1 = true) (p2 : plain d2 = true) (s1 : SeqAt.shaped (py d1) = true) (s2 : SeqAt.shaped (py d2) = true) : JC X .Eq a b ρ (eqD d1 d2) :=
  jc_of (op_eqD hu) ha hb fun T v u Q o r1 r2 q => ⟨_, _, r1.dp p1, r2.dp p2, s1, s2, q T (Grow.refl o)⟩
theorem jc_neD (hu : X.A.units + 64 < cLine) (ha : JE X la a ρ d1) (hb : JE X lb b ρ d2) (p1 : plain d1 = true) (p2 : plain d2 = true) (s1 : SeqAt.shaped (py d1) = true) (s2 : SeqAt.shaped (py d2) = true) : JC X .NotEq a b ρ (!eqD d1 d2) :=
  jc_of (op_neD hu) ha hb fun T v u Q o r1 r2 q => ⟨_, _, r1.dp p1, r2.dp p2, s1, s2, q T (Grow.refl o)⟩
theorem canAll_ints : ∀ ns : List Int, PyData.canLayAll0 (ns.map PyData.int) = true
  | [] => rfl
  | n :: r => by
    rw [List.map_cons, PyData.canLayAll0, canAll_ints r]
    rfl
theorem depth_ints : ∀ ns : List Int, PyData.depthAll (ns.map PyData.int) ≤ 1
  | [] => by decide
  | n :: r => by
    have := depth_ints r
    rw [List.map_cons, PyData.depthAll]
    exact Nat.max_le.mpr ⟨by rw [PyData.depth]; exact Nat.zero_le _, this⟩
theorem shaped_ints (ns : List Int) : SeqAt.shaped (py (.il ns)) = true := by
  unfold SeqAt.shaped
  rw [py, PyData.canLay0, canAll_ints]
  have := depth_ints ns
  rw [Bool.true_and, decide_eq_true_eq, PyData.depth]
  exact Nat.le_trans (Nat.succ_le_succ this) (by decide)
theorem eqvAll_ints : ∀ xs ys : List Int, PyData.eqvAll (xs.map PyData.int) (ys.map PyData.int) = decide (xs = ys)
  | [], [] => rfl
  | x :: xs, [] => by rw [List.map_cons, List.map_nil, PyData.eqvAll]; simp
  | [], y :: ys => by rw [List.map_cons, List.map_nil, PyData.eqvAll]; simp
  | x :: xs, y :: ys => by
    rw [List.map_cons, List.map_cons, PyData.eqvAll, eqvAll_ints xs ys, PyData.eqv]
    by_cases h : x = y
    · subst h; simp
    · simp [h]
theorem eqD_il (xs ys : List Int) : eqD (.il xs) (.il ys) = decide (xs = ys) := by
  unfold eqD
  rw [py, py, PyData.eqv, eqvAll_ints]
theorem jc_eqL (hu : X.A.units + 64 < cLine) (ha : JE X la a ρ (.il ns)) (hb : JE X lb b ρ (.il ms)) : JC X .Eq a b ρ (decide (ns = ms)) := by
  have h := jc_eqD hu ha hb rfl rfl (shaped_ints ns) (shaped_ints ms)
  rw [eqD_il] at h
  exact h
theorem jc_neL (hu : X.A.units + 64 < cLine) (ha : JE X la a ρ (.il ns)) (hb : JE X lb b ρ (.il ms)) : JC X .NotEq a b ρ (!decide (ns = ms)) := by
  have h := jc_neD hu ha hb rfl rfl (shaped_ints ns) (shaped_ints ms)
  rw [eqD_il] at h
  exact h
/-- x in xs, of ints -/
theorem inV_ints (x : Int) : ∀ ns : List Int, inV (.int x) (ns.map V.int) = decide (x ∈ ns)
  | [] => by simp [inV]
  | n :: r => by
    have ih := inV_ints x r
    unfold inV at ih ⊢
    rw [List.map_cons, List.any_cons, ih]
    show (n == x || decide (x ∈ r)) = decide (x ∈ n :: r)
    by_cases h : n = x
    · subst h; simp
    · have h' : ¬ x = n := fun z => h z.symm
      simp [h, h']
theorem flat_ints : ∀ ns : List Int, (ns.map V.int).all flatV = true
  | [] => rfl
  | n :: r => by rw [List.map_cons, List.all_cons, flat_ints r]; rfl
theorem jc_in (ha : JE X la a ρ (.int i)) (hb : JE X lb b ρ (.il ns)) : JC X .In a b ρ (decide (i ∈ ns)) :=
  jc_of op_in_seq ha hb fun T x u Q o r1 r2 q => by
    cases r1
    cases r2 with
    | il h =>
      have h := SqL.of (K := X.K) h
      refine ⟨_, _, rfl, .inl h, rfl, flat_ints ns, ?_⟩
      rw [inV_ints]
      exact q T (Grow.refl o)
theorem jc_notin (ha : JE X la a ρ (.int i)) (hb : JE X lb b ρ (.il ns)) : JC X .NotIn a b ρ (!decide (i ∈ ns)) :=
  jc_of op_notIn_seq ha hb fun T x u Q o r1 r2 q => by
    cases r1
    cases r2 with
    | il h =>
      have h := SqL.of (K := X.K) h
      refine ⟨_, _, rfl, .inl h, rfl, flat_ints ns, ?_⟩
      rw [inV_ints]
      exact q T (Grow.refl o)
/-- d in ds, of pure data -/
theorem jc_inD (hu : X.A.units + 65 < cLine) (ha : JE X la a ρ d) (hb : JE X lb b ρ (.lst ds)) (p1 : plain d = true) (p2 : plains ds = true) (s1 : SeqAt.shaped (py d) = true) (s2 : SeqAt.shaped (.list (pys ds)) = true) :
    JC X .In a b ρ ((pys ds).any fun z => PyData.eqv z (py d)) :=
  jc_of (op_inD hu) ha hb fun T x u Q o r1 r2 q => by
    have h2 := r2.dp (by rw [plain]; exact p2)
    rw [py] at h2
    exact ⟨_, _, r1.dp p1, h2, s1, s2, q T (Grow.refl o)⟩
theorem jc_notinD (hu : X.A.units + 65 < cLine) (ha : JE X la a ρ d) (hb : JE X lb b ρ (.lst ds)) (p1 : plain d = true) (p2 : plains ds = true) (s1 : SeqAt.shaped (py d) = true) (s2 : SeqAt.shaped (.list (pys ds)) = true) :
    JC X .NotIn a b ρ (!(pys ds).any fun z => PyData.eqv z (py d)) :=
  jc_of (op_notInD hu) ha hb fun T x u Q o r1 r2 q => by
    have h2 := r2.dp (by rw [plain]; exact p2)
    rw [py] at h2
    exact ⟨_, _, r1.dp p1, h2, s1, s2, q T (Grow.refl o)⟩
/-- a op b op' c, of ints -/
theorem je_chain {op op' : CmpOp} {g g' : Int → Int → Bool} (ho : OpR X (compareOp op) (rI0 fun i j => .bl (g i j))) (ho' : OpR X (compareOp op') (rI0 fun i j => .bl (g' i j)))
    (ha : JE X la a ρ (.int i)) (hb : JE X lb b ρ (.int j)) (hc : g i j = true → JE X lc c ρ (.int k)) (hm : lastMarks [op, op'] [b, c] = false := by exact lm_ns rfl) :
    JE X .frs (.Compare a [op, op'] [b, c] pos) ρ (.bl (g i j && g' j k)) :=
  JE.of (pe_chain ho ho' pe_w pe_w pe_w hm) fun T σ Q F q => ha T σ _ F fun v T1 g1 r1 => hb T1 σ _ (F.grow g1) fun u T2 g2 r2 => by
    cases r1
    cases r2
    refine ⟨i, j, rfl, rfl, _, rfl, ?_⟩
    cases e : g i j with
    | false =>
      refine iteF ?_
      rw [e] at q
      exact q _ T2 (g1.trans g2) (.bl _)
    | true =>
      rw [e] at q
      refine iteT (hc e T2 σ _ ((F.grow g1).grow g2) fun w T3 g3 r3 => ?_)
      cases r3
      exact ⟨j, k, rfl, rfl, q _ T3 ((g1.trans g2).trans g3) (.bl _)⟩
theorem jt_chain {op op' : CmpOp} {g g' : Int → Int → Bool} (ho : OpR X (compareOp op) (rI0 fun i j => .bl (g i j))) (ho' : OpR X (compareOp op') (rI0 fun i j => .bl (g' i j)))
    (ha : JE X la a ρ (.int i)) (hb : JE X lb b ρ (.int j)) (hc : g i j = true → JE X lc c ρ (.int k)) (hm : lastMarks [op, op'] [b, c] = false := by exact lm_ns rfl) :
    JT X (.Compare a [op, op'] [b, c] pos) ρ (g i j && g' j k) :=
  JT.of (pt_chain ho ho' pe_w pe_w pe_w hm) fun T σ Q F q => ha T σ _ F fun v T1 g1 r1 => hb T1 σ _ (F.grow g1) fun u T2 g2 r2 => by
    cases r1
    cases r2
    refine ⟨i, j, rfl, rfl, _, rfl, ?_⟩
    cases e : g i j with
    | false =>
      refine iteF ⟨_, rfl, ?_⟩
      rw [e] at q
      exact q T2 (g1.trans g2)
    | true =>
      refine iteT (hc e T2 σ _ ((F.grow g1).grow g2) fun w T3 g3 r3 => ?_)
      cases r3
      rw [e] at q
      exact ⟨j, k, rfl, rfl, _, rfl, q T3 ((g1.trans g2).trans g3)⟩
abbrev gLt : Int → Int → Bool := fun i j => decide (i < j)
abbrev gLe : Int → Int → Bool := fun i j => decide (i ≤ j)
theorem je_ltlt (ha : JE X la a ρ (.int i)) (hb : JE X lb b ρ (.int j)) (hc : JE X lc c ρ (.int k)) (hm : lastMarks [.Lt, .Lt] [b, c] = false := by exact lm_ns rfl) : JE X .frs (.Compare a [.Lt, .Lt] [b, c] pos) ρ (.bl (decide (i < j) && decide (j < k))) := je_chain (g := gLt) (g' := gLt) op_lt op_lt ha hb (fun _ => hc) hm
theorem je_lelt (ha : JE X la a ρ (.int i)) (hb : JE X lb b ρ (.int j)) (hc : JE X lc c ρ (.int k)) (hm : lastMarks [.LtE, .Lt] [b, c] = false := by exact lm_ns rfl) : JE X .frs (.Compare a [.LtE, .Lt] [b, c] pos) ρ (.bl (decide (i ≤ j) && decide (j < k))) := je_chain (g := gLe) (g' := gLt) op_le op_lt ha hb (fun _ => hc) hm
theorem je_ltle (ha : JE X la a ρ (.int i)) (hb : JE X lb b ρ (.int j)) (hc : JE X lc c ρ (.int k)) (hm : lastMarks [.Lt, .LtE] [b, c] = false := by exact lm_ns rfl) : JE X .frs (.Compare a [.Lt, .LtE] [b, c] pos) ρ (.bl (decide (i < j) && decide (j ≤ k))) := je_chain (g := gLt) (g' := gLe) op_lt op_le ha hb (fun _ => hc) hm
theorem je_lele (ha : JE X la a ρ (.int i)) (hb : JE X lb b ρ (.int j)) (hc : JE X lc c ρ (.int k)) (hm : lastMarks [.LtE, .LtE] [b, c] = false := by exact lm_ns rfl) : JE X .frs (.Compare a [.LtE, .LtE] [b, c] pos) ρ (.bl (decide (i ≤ j) && decide (j ≤ k))) := je_chain (g := gLe) (g' := gLe) op_le op_le ha hb (fun _ => hc) hm
theorem jt_ltlt (ha : JE X la a ρ (.int i)) (hb : JE X lb b ρ (.int j)) (hc : JE X lc c ρ (.int k)) (hm : lastMarks [.Lt, .Lt] [b, c] = false := by exact lm_ns rfl) : JT X (.Compare a [.Lt, .Lt] [b, c] pos) ρ (decide (i < j) && decide (j < k)) := jt_chain (g := gLt) (g' := gLt) op_lt op_lt ha hb (fun _ => hc) hm
theorem jt_lelt (ha : JE X la a ρ (.int i)) (hb : JE X lb b ρ (.int j)) (hc : JE X lc c ρ (.int k)) (hm : lastMarks [.LtE, .Lt] [b, c] = false := by exact lm_ns rfl) : JT X (.Compare a [.LtE, .Lt] [b, c] pos) ρ (decide (i ≤ j) && decide (j < k)) := jt_chain (g := gLe) (g' := gLt) op_le op_lt ha hb (fun _ => hc) hm
theorem jt_ltle (ha : JE X la a ρ (.int i)) (hb : JE X lb b ρ (.int j)) (hc : JE X lc c ρ (.int k)) (hm : lastMarks [.Lt, .LtE] [b, c] = false := by exact lm_ns rfl) : JT X (.Compare a [.Lt, .LtE] [b, c] pos) ρ (decide (i < j) && decide (j ≤ k)) := jt_chain (g := gLt) (g' := gLe) op_lt op_le ha hb (fun _ => hc) hm
theorem jt_lele (ha : JE X la a ρ (.int i)) (hb : JE X lb b ρ (.int j)) (hc : JE X lc c ρ (.int k)) (hm : lastMarks [.LtE, .LtE] [b, c] = false := by exact lm_ns rfl) : JT X (.Compare a [.LtE, .LtE] [b, c] pos) ρ (decide (i ≤ j) && decide (j ≤ k)) := jt_chain (g := gLe) (g' := gLe) op_le op_le ha hb (fun _ => hc) hm

/-! ### tests -/
theorem jt_v {v : Bool} (h : JE X l e ρ (.bl v)) (he : ∀ whole, isTrue e X.env whole = (do let v ← whole; standAt e.pos; holding [v] (truthy v)) := by exact it_ns rfl) : JT X e ρ v :=
  JT.of (pt_val pe_w he) fun T σ Q F q => h T σ _ F fun w T' g r => by
    cases r
    exact ⟨v, rfl, q T' g⟩
theorem jt_not {v : Bool} (h : JT X a ρ v) : JT X (.UnaryOp .Not a pos) ρ (!v) := JT.of (pt_not pt_w) fun T σ Q F q => h T σ _ F q
theorem jw_and1 {v : Bool} (h : JT X a ρ v) : JW X (.BoolOp .And [a] pos) ρ v := JW.of (pw_and1 pt_w) fun T σ Q F q => h T σ _ F q
theorem jw_or1 {v : Bool} (h : JT X a ρ v) : JW X (.BoolOp .Or [a] pos) ρ v := JW.of (pw_or1 pt_w) fun T σ Q F q => h T σ _ F q
theorem jw_and {v u : Bool} (h : JT X a ρ v) (h2 : v = true → JW X (.BoolOp .And (b :: es) pos) ρ u) : JW X (.BoolOp .And (a :: b :: es) pos) ρ (v && u) :=
  JW.of (pw_and pt_w pw_w) fun T σ Q F q => h T σ _ F fun T1 g1 => by
    cases v with
    | false => exact iteF (q T1 g1)
    | true => exact iteT (h2 rfl T1 σ _ (F.grow g1) fun T2 g2 => q T2 (g1.trans g2))
theorem jw_or {v u : Bool} (h : JT X a ρ v) (h2 : v = false → JW X (.BoolOp .Or (b :: es) pos) ρ u) : JW X (.BoolOp .Or (a :: b :: es) pos) ρ (v || u) :=
  JW.of (pw_or pt_w pw_w) fun T σ Q F q => h T σ _ F fun T1 g1 => by
    cases v with
    | true => exact iteT (q T1 g1)
    | false => exact iteF (h2 rfl T1 σ _ (F.grow g1) fun T2 g2 => q T2 (g1.trans g2))
/-- as values -/
theorem je_one {op : BoolOp} (h : JE X l a ρ d) : JE X l (.BoolOp op [a] pos) ρ d := JE.of (pe_one pe_w) fun T σ Q F q => h T σ _ F q
theorem je_and {v u : Bool} (h : JE X la a ρ (.bl v)) (h2 : v = true → JE X .frs (.BoolOp .And (b :: es) pos) ρ (.bl u)) : JE X .frs (.BoolOp .And (a :: b :: es) pos) ρ (.bl (v && u)) :=
  JE.of (pe_and pe_w pe_w) fun T σ Q F q => h T σ _ F fun w T1 g1 r => by
    cases r
    refine ⟨v, rfl, ?_⟩
    cases v with
    | false => exact iteF (q _ T1 g1 (.bl false))
    | true => exact iteT (h2 rfl T1 σ _ (F.grow g1) fun w T2 g2 r2 => q w T2 (g1.trans g2) r2)
theorem je_or {v u : Bool} (h : JE X la a ρ (.bl v)) (h2 : v = false → JE X .frs (.BoolOp .Or (b :: es) pos) ρ (.bl u)) : JE X .frs (.BoolOp .Or (a :: b :: es) pos) ρ (.bl (v || u)) :=
  JE.of (pe_or pe_w pe_w) fun T σ Q F q => h T σ _ F fun w T1 g1 r => by
    cases r
    refine ⟨v, rfl, ?_⟩
    cases v with
    | true => exact iteT (q _ T1 g1 (.bl true))
    | false => exact iteF (h2 rfl T1 σ _ (F.grow g1) fun w T2 g2 r2 => q w T2 (g1.trans g2) r2)
theorem je_not {v : Bool} (h : JE X la a ρ (.bl v)) : JE X .frs (.UnaryOp .Not a pos) ρ (.bl (!v)) :=
  JE.of (pe_not pe_w) fun T σ Q F q => h T σ _ F fun w T1 g1 r => by
    cases r
    exact ⟨v, rfl, q _ T1 g1 (.bl _)⟩
theorem je_if {v : Bool} (h : JT X c ρ v) (h1 : v = true → JE X l a ρ d1) (h2 : v = false → JE X l b ρ d2) : JE X l (.IfExp c a b pos) ρ (if v = true then d1 else d2) :=
  JE.of (pe_ifExp pt_w pe_w pe_w) fun T σ Q F q => h T σ _ F fun T1 g1 => by
    cases v with
    | true => exact iteT (h1 rfl T1 σ _ (F.grow g1) fun w T2 g2 r2 => q w T2 (g1.trans g2) r2)
    | false => exact iteF (h2 rfl T1 σ _ (F.grow g1) fun w T2 g2 r2 => q w T2 (g1.trans g2) r2)
theorem je_ifI {v : Bool} (h : JT X c ρ v) (h1 : v = true → JE X la a ρ (.int i)) (h2 : v = false → JE X lb b ρ (.int j)) : JE X .frs (.IfExp c a b pos) ρ (.int (if v = true then i else j)) := by
  have z := je_if (pos := pos) h (fun t => (h1 t).sc (l' := .frs) rfl) (fun t => (h2 t).sc (l' := .frs) rfl)
  cases v <;> exact z

/-! ### arguments, displays -/
theorem ja_nil : JA X l [] ρ [] := JA.of pa_nil fun T σ Q F q => q _ T (Grow.refl F.ok) .nil
theorem ja_cons (h : JE X la e ρ d) (hr : JA X l es ρ ds) (z : Lv.le la l = true := by first | rfl | exact Lv.le_full _) (hs : starEach (e :: es) X.env = (false, eval e X.env) :: starEach es X.env := by exact star_c rfl) : JA X l (e :: es) ρ (d :: ds) :=
  JA.of (pa_cons pe_w pa_w hs) fun T σ Q F q => h T σ _ F fun v T1 g1 r1 => hr T1 σ _ (F.grow g1) fun vs T2 g2 r2 => q _ T2 (g1.trans g2) (.cons ((r1.mono (g1.ok.le z)).mono (g2.at l)) r2)
theorem small_of {n : Nat} (h : n ≤ 100000) : n ≤ sizeLine := Nat.le_trans h (by decide)
theorem small_lt {n : Nat} (h : n < 100000) : n < sizeLine := Nat.lt_of_lt_of_le h (by decide)
theorem jo_lst (h : JA X l es ρ ds) (z : Lv.le l .imm = true := by rfl) (hz : ds.length ≤ 100000 := by first | decide | exact of_decide_eq_true rfl) : JO X l (.List es pos) ρ ds :=
  JO.of (pe_lst pa_w) fun T σ Q F q => h T σ _ F fun vs T1 g1 r1 => ⟨by rw [r1.length]; exact small_of hz, fun p hp =>
    q p vs (T1.put p _) (g1.trans (Grow.put g1.ok hp)) (Same.free g1.ex hp) (g1.ok.i_none hp) upd_same (by
      cases l with
      | full => cases z
      | imm => exact r1
      | frs => exact r1)⟩
theorem joi_lst (h : JA X l es ρ (ns.map D.int)) (hz : ns.length ≤ 100000 := by first | decide | exact of_decide_eq_true rfl) : JOI X (.List es pos) ρ ns :=
  JOI.of (pe_lst pa_w) fun T σ Q F q => h T σ _ F fun vs T1 g1 r1 => by
    have e := r1.of_il
    subst e
    exact ⟨by rw [List.length_map]; exact small_of hz, fun p hp => q p (T1.put p _) (g1.trans (Grow.put g1.ok hp)) (Same.free g1.ex hp) (g1.ok.i_none hp) upd_same⟩
theorem joi_nil : JOI X (.List [] pos) ρ [] := joi_lst (l := .frs) (ns := []) ja_nil
theorem je_tup (h : JA X l es ρ ds) (z : Lv.le l .imm = true := by rfl) (hz : ds.length ≤ 100000 := by first | decide | exact of_decide_eq_true rfl) : JE X l (.Tuple es kt pos) ρ (.tup ds) :=
  JE.of (pe_tup pa_w) fun T σ Q F q => h T σ _ F fun vs T1 g1 r1 => ⟨by rw [r1.length]; exact small_of hz, fun p hp => by
    have G := g1.trans (Grow.put (x := .tup vs) g1.ok hp)
    cases l with
    | full => cases z
    | imm => exact q _ ((T1.put p _).fixI p _) (G.fixI (Same.free g1.ex hp) (g1.ok.i_none hp) upd_same) (.tup upd_same (r1.mono (same_new (g1.ok.i_none hp))))
    | frs => exact q _ ((T1.put p _).fix p _) (G.fix (Same.free g1.ex hp) (g1.ok.i_none hp) upd_same) (.tup upd_same (r1.mono (same_new (g1.ok.n_none hp))))⟩
end
end Lf

set_option Elab.async false
set_option linter.all false
set_option maxRecDepth 100000
set_option maxHeartbeats 2000000
set_option autoImplicit false
namespace Lf
open PySem L2
/-! ### items -/
/-- the item at i, Python's way -/
def gI (ns : List Int) (i : Int) : Int := if 0 ≤ i then ns.getD i.toNat 0 else ns.getD (i + ns.length).toNat 0
def gD (ds : List D) (i : Int) : D := if 0 ≤ i then ds.getD i.toNat .non else ds.getD (i + ds.length).toNat .non
def inR (n : Nat) (i : Int) : Prop := -(n : Int) ≤ i ∧ i < n
theorem atI_some {α : Type} {xs : List α} {i : Int} (h : inR xs.length i) : ∃ j, j < xs.length ∧ atI xs i = xs[j]? ∧ ((0 ≤ i ∧ j = i.toNat) ∨ (i < 0 ∧ j = (i + xs.length).toNat)) := by
  obtain ⟨h1, h2⟩ := h
  unfold atI ixN
  by_cases h0 : 0 ≤ i
  · rw [if_pos h0, if_pos h2]
    exact ⟨i.toNat, by omega, rfl, .inl ⟨h0, rfl⟩⟩
  · rw [if_neg h0, if_pos h1]
    exact ⟨(i + xs.length).toNat, by omega, rfl, .inr ⟨by omega, rfl⟩⟩
theorem atI_ints {ns : List Int} {i : Int} (h : inR ns.length i) : atI (ns.map V.int) i = some (.int (gI ns i)) := by
  obtain ⟨j, hj, e, q⟩ := atI_some (xs := ns.map V.int) (i := i) (by rw [List.length_map]; exact h)
  rw [List.length_map] at hj q
  rw [e, List.getElem?_map, List.getElem?_eq_getElem hj]
  unfold gI
  rcases q with ⟨h0, rfl⟩ | ⟨h0, rfl⟩
  · rw [if_pos h0, List.getD_eq_getElem?_getD, List.getElem?_eq_getElem hj]
    rfl
  · rw [if_neg (by omega), List.getD_eq_getElem?_getD, List.getElem?_eq_getElem hj]
    rfl
theorem atI_all {K : PySem.W.Frag} {H : Hp} {vs : List V} {ds : List D} (r : RpAll K H vs ds) {i : Int} (h : inR ds.length i) : ∃ v, atI vs i = some v ∧ Rp K H v (gD ds i) := by
  obtain ⟨j, hj, e, q⟩ := atI_some (xs := vs) (i := i) (by rw [r.length]; exact h)
  rw [r.length] at hj q
  obtain ⟨v, h1, h2⟩ := r.get (i := j) (d := ds[j]) (List.getElem?_eq_getElem hj)
  refine ⟨v, e.trans h1, ?_⟩
  have : gD ds i = ds[j] := by
    unfold gD
    rcases q with ⟨h0, rfl⟩ | ⟨h0, rfl⟩
    · rw [if_pos h0, List.getD_eq_getElem?_getD, List.getElem?_eq_getElem hj]
      rfl
    · rw [if_neg (by omega), List.getD_eq_getElem?_getD, List.getElem?_eq_getElem hj]
      rfl
  rw [this]
  exact h2
/-- a part of a list -/
def cutL {α : Type} (xs : List α) (lo hi : Option Int) : List α := (xs.drop (HT.sIx xs.length 0 lo)).take (HT.sIx xs.length xs.length hi - HT.sIx xs.length 0 lo)
theorem cutV_ints (ns : List Int) (lo hi : Option Int) : cutV (ns.map V.int) lo hi = (cutL ns lo hi).map V.int := by
  unfold cutV cutL
  rw [List.length_map, List.map_take, List.map_drop]
theorem cutV_all {K : PySem.W.Frag} {H : Hp} {vs : List V} {ds : List D} (r : RpAll K H vs ds) (lo hi : Option Int) : RpAll K H (cutV vs lo hi) (cutL ds lo hi) := by
  unfold cutV cutL
  rw [r.length]
  exact (r.drop _).take _
theorem cutL_to {α : Type} (xs : List α) {k : Int} (h : 0 ≤ k) : cutL xs none (some k) = xs.take k.toNat := by
  unfold cutL HT.sIx
  simp only [List.drop_zero, Nat.sub_zero]
  rw [if_neg (by omega)]
  exact List.take_eq_take_iff.mpr (by omega)
theorem cutL_from {α : Type} (xs : List α) {k : Int} (h : 0 ≤ k) : cutL xs (some k) none = xs.drop k.toNat := by
  unfold cutL HT.sIx
  simp only
  rw [if_neg (by omega)]
  have e : xs.drop (min k.toNat xs.length) = xs.drop k.toNat := by
    by_cases q : k.toNat ≤ xs.length
    · rw [Nat.min_eq_left q]
    · rw [Nat.min_eq_right (by omega), List.drop_eq_nil_of_le (Nat.le_refl _), List.drop_eq_nil_of_le (by omega)]
  rw [e]
  exact List.take_of_length_le (by rw [List.length_drop]; omega)
theorem cutL_mid {α : Type} (xs : List α) {i k : Int} (h : 0 ≤ i) (h' : 0 ≤ k) : cutL xs (some i) (some k) = (xs.drop i.toNat).take (k.toNat - i.toNat) := by
  unfold cutL HT.sIx
  simp only
  rw [if_neg (by omega), if_neg (by omega)]
  have e : xs.drop (min i.toNat xs.length) = xs.drop i.toNat := by
    by_cases q : i.toNat ≤ xs.length
    · rw [Nat.min_eq_left q]
    · rw [Nat.min_eq_right (by omega), List.drop_eq_nil_of_le (Nat.le_refl _), List.drop_eq_nil_of_le (by omega)]
  rw [e]
  exact List.take_eq_take_iff.mpr (by rw [List.length_drop]; omega)
theorem cutL_butlast {α : Type} (xs : List α) : cutL xs none (some (-1)) = xs.dropLast := by
  unfold cutL HT.sIx
  simp only [List.drop_zero, Nat.sub_zero]
  rw [if_pos (by decide), List.dropLast_eq_take]
  exact List.take_eq_take_iff.mpr (by omega)
theorem cutL_length {α : Type} (xs : List α) (lo hi : Option Int) : (cutL xs lo hi).length ≤ xs.length := by
  unfold cutL
  rw [List.length_take, List.length_drop]
  omega

section
variable {X : Cx} {e a b c : Expr} {es : List Expr} {ρ : PEnv} {d d1 d2 d3 : D} {l la lb lc : Lv} {pos p p2 : Pos} {i j k : Int} {ns ms : List Int} {ds : List D} {kt : Nat} {x : Str}

theorem je_ixI (ha : JE X la a ρ (.il ns)) (hb : JE X lb b ρ (.int i)) (h : inR ns.length i) (hs : PlainIx b := by exact px_ns rfl) : JE X .frs (.Subscript a b pos) ρ (.int (gI ns i)) :=
  JE.of (pe_ix ix_list pe_w pe_w hs) fun T σ Q F q => ha T σ _ F fun v T1 g1 r1 => hb T1 σ _ (F.grow g1) fun u T2 g2 r2 => by
    have r1' := (r1.mono g1.ok.full).mono g2.ex
    cases r1' with
    | il h1 =>
      have h1 := SqL.of (K := X.K) h1
      cases r2
      exact ⟨_, _, i, _, rfl, rfl, h1, atI_ints h, q _ T2 (g1.trans g2) (.int _)⟩
theorem je_ixD (ha : JE X la a ρ (.lst ds)) (hb : JE X lb b ρ (.int i)) (h : inR ds.length i) (hq : gD ds i = d := by rfl) (hs : PlainIx b := by exact px_ns rfl) : JE X la (.Subscript a b pos) ρ d := by
  subst hq
  exact JE.of (pe_ix ix_list pe_w pe_w hs) fun T σ Q F q => ha T σ _ F fun v T1 g1 r1 => hb T1 σ _ (F.grow g1) fun u T2 g2 r2 => by
    have r1' := r1.mono (g2.at la)
    cases r1' with
    | lst h1 rr =>
      have h1 := SqL.of (K := X.K) h1
      cases r2
      obtain ⟨w, e1, e2⟩ := atI_all rr h
      exact ⟨_, _, i, w, rfl, rfl, (g2.ok.full (a := la)).seq h1, e1, q _ T2 (g1.trans g2) e2⟩
theorem je_ixT (ha : JE X la a ρ (.tup ds)) (hb : JE X lb b ρ (.int i)) (h : inR ds.length i) (hq : gD ds i = d := by rfl) (hs : PlainIx b := by exact px_ns rfl) : JE X la (.Subscript a b pos) ρ d := by
  subst hq
  exact JE.of (pe_ix ix_tup pe_w pe_w hs) fun T σ Q F q => ha T σ _ F fun v T1 g1 r1 => hb T1 σ _ (F.grow g1) fun u T2 g2 r2 => by
    have r1' := r1.mono (g2.at la)
    cases r1' with
    | tup h1 rr =>
      have h1 := SqT.of (K := X.K) h1
      cases r2
      obtain ⟨w, e1, e2⟩ := atI_all rr h
      exact ⟨_, _, i, w, rfl, rfl, seqT (g2.ok.full (a := la)) h1, e1, q _ T2 (g1.trans g2) e2⟩
/-- an item of an own list -/
theorem je_ixO (n : Nat) (hr : ρ[n]? = some (some (.own l ds))) (hb : JE X lb b ρ (.int i)) (h : inR ds.length i) (hq : gD ds i = d := by rfl) (hN : X.N[n]? = some x := by rfl) (hv : Vis X.env.scope x := by first | exact Or.inl rfl | exact Or.inr (Or.inl rfl) | exact Or.inr (Or.inr rfl))
    (hd : (x == ("__debug__" : Str)) = false := by decide) (hcd : (x == ("__classdict__" : Str)) = false := by decide) (hs : PlainIx b := by exact px_ns rfl) : JE X l (.Subscript (.Name x p) b pos) ρ d := by
  subst hq
  exact JE.of (pe_ix ix_list (pe_var hN hv hd hcd) pe_w hs) fun T σ Q F q => by
    obtain ⟨v, h1, hl, a, vs, rfl, h2, h3, r⟩ := F.val n _ hr
    refine ⟨_, h1, hb T σ _ F fun u T2 g2 r2 => ?_⟩
    cases r2
    obtain ⟨w, e1, e2⟩ := atI_all (r.mono (g2.at l)) h
    exact ⟨_, _, i, w, rfl, rfl, SqL.of (g2.ex _ _ h2), e1, q _ T2 g2 e2⟩

/-! ### slices -/
def wO (X : Cx) (e : Option Expr) : TO := fun σ H Q => ∀ pins s, Inv X pins σ H s → wpAny (model X.prog X.w) X.A (evalPart e X.env) (fun u s' => ∃ o H', Inv X pins σ H' s' ∧ IsPart u o ∧ Q o H') X.xe s
theorem po_w {eo : Option Expr} : PO X eo (wO X eo) := ⟨fun pins s σ H Q I h => h pins s I⟩
def JP (X : Cx) (e : Option Expr) (ρ : PEnv) (o : Option Int) : Prop :=
  ∀ (T : W3) (σ : L2.St) (Q : Option Int → Hp → Prop), Fr X.K T σ ρ → (∀ T', Grow T T' → Q o T'.h) → wO X e σ T.h Q
theorem jp_none : JP X none ρ none := fun T σ Q F q pins s I => po_none.run pins s σ T.h Q I (q T (Grow.refl F.ok))
theorem jp_some (h : JE X l e ρ (.int i)) : JP X (some e) ρ (some i) := fun T σ Q F q pins s I => (po_some pe_w).run pins s σ T.h Q I (h T σ _ F fun v T' g r => by
  cases r
  exact ⟨i, rfl, q T' g⟩)
variable {lo hi : Option Expr} {ol oh : Option Int}
theorem joi_cut (ha : JE X la a ρ (.il ns)) (hl : JP X lo ρ ol) (hh : JP X hi ρ oh) : JOI X (.Subscript a (.Slice lo hi none p2) pos) ρ (cutL ns ol oh) :=
  JOI.of (pe_slice sl_list pe_w po_w po_w) fun T σ Q F q => ha T σ _ F fun v T1 g1 r1 => hl T1 σ _ (F.grow g1) fun T2 g2 => hh T2 σ _ ((F.grow g1).grow g2) fun T3 g3 => by
    have r1' := ((r1.mono g1.ok.full).mono g2.ex).mono g3.ex
    cases r1' with
    | il h1 =>
      have h1 := SqL.of (K := X.K) h1
      have G := (g1.trans g2).trans g3
      refine ⟨_, _, rfl, h1, fun p hp => ?_⟩
      rw [cutV_ints]
      exact q p (T3.put p _) (G.trans (Grow.put G.ok hp)) (Same.free G.ex hp) (G.ok.i_none hp) upd_same
theorem jo_cut (ha : JE X la a ρ (.lst ds)) (hl : JP X lo ρ ol) (hh : JP X hi ρ oh) (z : Lv.le la .imm = true := by rfl) : JO X la (.Subscript a (.Slice lo hi none p2) pos) ρ (cutL ds ol oh) :=
  JO.of (pe_slice sl_list pe_w po_w po_w) fun T σ Q F q => ha T σ _ F fun v T1 g1 r1 => hl T1 σ _ (F.grow g1) fun T2 g2 => hh T2 σ _ ((F.grow g1).grow g2) fun T3 g3 => by
    have G := (g1.trans g2).trans g3
    have r1' := r1.mono ((g2.trans g3).at la)
    cases r1' with
    | lst h1 rr =>
      have h1 := SqL.of (K := X.K) h1
      refine ⟨_, _, rfl, (G.ok.full (a := la)).seq h1, fun p hp => ?_⟩
      refine q p _ (T3.put p _) (G.trans (Grow.put G.ok hp)) (Same.free G.ex hp) (G.ok.i_none hp) upd_same ?_
      cases la with
      | full => cases z
      | imm => exact cutV_all rr _ _
      | frs => exact cutV_all rr _ _
theorem joi_rev {k : Nat} {p1 p3 : Pos} (ha : JE X la a ρ (.il ns)) : JOI X (.Subscript a (.Slice none none (some (.UnaryOp .USub (.Constant (.int 1) k p1) p2)) p3) pos) ρ ns.reverse :=
  JOI.of (pe_revL pe_w) fun T σ Q F q => ha T σ _ F fun v T1 g1 r1 => by
    have r1' := r1.mono g1.ok.full
    cases r1' with
    | il h1 =>
      have h1 := SqL.of (K := X.K) h1
      refine ⟨_, _, rfl, h1, fun p hp => ?_⟩
      rw [← List.map_reverse]
      exact q p (T1.put p _) (g1.trans (Grow.put g1.ok hp)) (Same.free g1.ex hp) (g1.ok.i_none hp) upd_same

/-! ### lists put together -/
theorem plain_get {h : Heap} {q : Addr} {its : Array Value} (x : PlainL h q its) : ∃ n sl dd, h.get? q = some { cls := .type "list", dict := dd, data := .seq its n, slots := sl } := by
  obtain ⟨o, n, ho, hc, hdd, hd⟩ := x
  obtain ⟨c, dd, dt, sl⟩ := o
  simp only at hc hdd hd
  subst hc hdd hd
  exact ⟨n, sl, none, ho⟩
end
end Lf

set_option Elab.async false
set_option linter.all false
set_option maxRecDepth 100000
set_option maxHeartbeats 2000000
set_option autoImplicit false
namespace L2
open PySem PySem.Spec PyProof.Rows
/-- list + list, wherever they are read -/
def rCatS (K : PySem.W.Frag) : R2 := fun x y H Q => ∃ l b xs zs, x = .ref l ∧ y = .ref b ∧ SqL K H l xs ∧ SqL K H b zs ∧ xs.length + zs.length ≤ sizeLine ∧ ∀ p, H p = none → Q (.ref p) (upd H p (.lst (xs ++ zs)))
theorem op_catS {X : Cx} : OpR X (binaryOp .Add) (rCatS X.K) := by
  intro pins s σ H x y v u Q I rx ry h
  obtain ⟨l, b, xs, zs, rfl, rfl, hH, hB, hz, q⟩ := h
  cases rx
  cases ry
  obtain ⟨its, r, p1, _⟩ := I.list hH
  obtain ⟨its2, r2, p2, _⟩ := I.list hB
  obtain ⟨n, sl, dd, ho⟩ := Lf.plain_get p1
  obtain ⟨n2, sl2, dd2, ho2⟩ := Lf.plain_get p2
  have e1 := r.length
  have e2 := r2.length
  refine concat_meets ⟨_, ho, rfl⟩ ⟨_, ho2, rfl⟩ noFill_list_add seq_list_add PySem.F.slot_list_add PySem.F.entry_list_add (PySem.F.args_list_add_2 _ _) (list_addW l b its.toArray its2.toArray n n2 dd dd2 sl sl2 (by simp; omega)) ⟨ho, ho2, ?_⟩
  have ea : its.toArray ++ its2.toArray = (its ++ its2).toArray := by simp
  rw [ea]
  exact ⟨.ref _, _, I.lnew (t' := s.toks) (r.append r2) (by rw [List.length_append]; omega), rfl, q _ I.fresh⟩
end L2
namespace Lf
open PySem L2
section
variable {X : Cx} {e a b c : Expr} {es : List Expr} {ρ : PEnv} {d d1 d2 d3 : D} {l la lb lc : Lv} {pos p p2 : Pos} {i j k : Int} {ns ms : List Int} {ds fs : List D} {kt : Nat} {x : Str}
theorem joi_cat (ha : JE X la a ρ (.il ns)) (hb : JE X lb b ρ (.il ms)) (hz : ns.length + ms.length ≤ 100000) : JOI X (.BinOp a .Add b pos) ρ (ns ++ ms) :=
  JOI.of (pe_op op_catS pe_w pe_w) fun T σ Q F q => ha T σ _ F fun v T1 g1 r1 => hb T1 σ _ (F.grow g1) fun u T2 g2 r2 => by
    have r1' := (r1.mono g1.ok.full).mono g2.ex
    have r2' := r2.mono g2.ok.full
    cases r1' with
    | il h1 =>
      have h1 := SqL.of (K := X.K) h1
      cases r2' with
      | il h2 =>
        have h2 := SqL.of (K := X.K) h2
        refine ⟨_, _, _, _, rfl, rfl, h1, h2, by rw [List.length_map, List.length_map]; exact small_of hz, fun p hp => ?_⟩
        rw [← List.map_append]
        exact q p (T2.put p _) ((g1.trans g2).trans (Grow.put g2.ok hp)) (Same.free (g1.trans g2).ex hp) (g2.ok.i_none hp) upd_same
theorem jo_cat (ha : JE X la a ρ (.lst ds)) (hb : JE X lb b ρ (.lst fs)) (z1 : Lv.le la l = true := by rfl) (z2 : Lv.le lb l = true := by rfl) (z : Lv.le l .imm = true := by rfl) (hz : ds.length + fs.length ≤ 100000 := by first | decide | exact of_decide_eq_true rfl) : JO X l (.BinOp a .Add b pos) ρ (ds ++ fs) :=
  JO.of (pe_op op_catS pe_w pe_w) fun T σ Q F q => ha T σ _ F fun v T1 g1 r1 => hb T1 σ _ (F.grow g1) fun u T2 g2 r2 => by
    have r1' := (r1.mono (g1.ok.le z1)).mono (g2.at l)
    have r2' := r2.mono (g2.ok.le z2)
    cases r1' with
    | lst h1 rr =>
      have h1 := SqL.of (K := X.K) h1
      cases r2' with
      | lst h2 rr2 =>
        have h2 := SqL.of (K := X.K) h2
        refine ⟨_, _, _, _, rfl, rfl, g2.ok.full.seq h1, g2.ok.full.seq h2, by rw [rr.length, rr2.length]; exact small_of hz, fun p hp => ?_⟩
        refine q p _ (T2.put p _) ((g1.trans g2).trans (Grow.put g2.ok hp)) (Same.free (g1.trans g2).ex hp) (g2.ok.i_none hp) upd_same ?_
        cases l with
        | full => cases z
        | imm => exact rr.append rr2
        | frs => exact rr.append rr2

/-! ### built-in calls -/
theorem je_callB {id : String} {r : List V → Hp → VK → Prop} (hc : CallR X (.builtin id) r) (hm : X.mg x = none) (hv : bootBuiltins x = some (.builtin id)) (ha : JA X .full (e :: es) ρ ds)
    (hr : ∀ (T : W3) vs (Q : VK), Ok T → RpAll X.K T.h vs ds → (∀ v T', Grow T T' → Rp X.K (T'.at l) v d → Q v T'.h) → r vs T.h Q)
    (hg : Gl X x := by rfl) (hn : x ≠ "__name__" := by decide) (hdb : (x == ("__debug__" : Str)) = false := by decide)
    (he : starEach (e :: es) X.env = (false, eval e X.env) :: starEach es X.env := by exact star_c rfl) (hpl : (backTo pos (starEach es X.env)).any (·.1) = false := by exact back_ns rfl) : JE X l (.Call (.Name x p) (e :: es) [] pos) ρ d :=
  JE.of (pe_callB hc hg hm hv pa_w hn hdb he hpl) fun T σ Q F q => ha T σ _ F fun vs T1 g1 r1 => hr T1 vs Q g1.ok r1 fun v T2 g2 r2 => q v T2 (g1.trans g2) r2
theorem je_len (hm : X.mg "len" = none) (ha : JE X la e ρ (.il ns)) (hg : Gl X "len" := by rfl) (he : starEach [e] X.env = (false, eval e X.env) :: starEach [] X.env := by exact star_c rfl) (hpl : (backTo pos (starEach [] X.env)).any (·.1) = false := by exact back_ns rfl) :
    JE X .frs (.Call (.Name "len" p) [e] [] pos) ρ (.int ns.length) :=
  je_callB call_len_seq hm PySem.boot_len (ja_cons ha ja_nil (Lv.le_full _) he) (fun T vs Q o r q => by
    cases r with
    | cons r1 r2 =>
      cases r2
      cases r1 with
      | il h =>
        have h := SqL.of (K := X.K) h
        refine ⟨_, _, rfl, .inl h, ?_⟩
        rw [List.length_map]
        exact q _ T (Grow.refl o) (.int _)) hg (by decide) (by decide) he hpl
theorem je_lenD (hm : X.mg "len" = none) (ha : JE X la e ρ (.lst ds)) (hg : Gl X "len" := by rfl) (he : starEach [e] X.env = (false, eval e X.env) :: starEach [] X.env := by exact star_c rfl) (hpl : (backTo pos (starEach [] X.env)).any (·.1) = false := by exact back_ns rfl) :
    JE X .frs (.Call (.Name "len" p) [e] [] pos) ρ (.int ds.length) :=
  je_callB call_len_seq hm PySem.boot_len (ja_cons ha ja_nil (Lv.le_full _) he) (fun T vs Q o r q => by
    cases r with
    | cons r1 r2 =>
      cases r2
      cases r1 with
      | lst h rr =>
        have h := SqL.of (K := X.K) h
        refine ⟨_, _, rfl, .inl h, ?_⟩
        rw [rr.length]
        exact q _ T (Grow.refl o) (.int _)) hg (by decide) (by decide) he hpl
theorem je_lenT (hm : X.mg "len" = none) (ha : JE X la e ρ (.tup ds)) (hg : Gl X "len" := by rfl) (he : starEach [e] X.env = (false, eval e X.env) :: starEach [] X.env := by exact star_c rfl) (hpl : (backTo pos (starEach [] X.env)).any (·.1) = false := by exact back_ns rfl) :
    JE X .frs (.Call (.Name "len" p) [e] [] pos) ρ (.int ds.length) :=
  je_callB call_len_seq hm PySem.boot_len (ja_cons ha ja_nil (Lv.le_full _) he) (fun T vs Q o r q => by
    cases r with
    | cons r1 r2 =>
      cases r2
      cases r1 with
      | tup h rr =>
        have h := SqT.of (K := X.K) h
        refine ⟨_, _, rfl, .inr h, ?_⟩
        rw [rr.length]
        exact q _ T (Grow.refl o) (.int _)) hg (by decide) (by decide) he hpl
theorem je_max (hm : X.mg "max" = none) (ha : JE X la a ρ (.int i)) (hb : JE X lb b ρ (.int j)) (hc : X.calm = true := by rfl) (hg : Gl X "max" := by rfl) (hsa : starEach [a, b] X.env = (false, eval a X.env) :: starEach [b] X.env := by exact star_c rfl) (hs : starEach [b] X.env = (false, eval b X.env) :: starEach [] X.env := by exact star_c rfl)
    (hpl : (backTo pos (starEach [b] X.env)).any (·.1) = false := by exact back_ns rfl) : JE X .frs (.Call (.Name "max" p) [a, b] [] pos) ρ (.int (if j > i then j else i)) :=
  je_callB (call_max2 hc) hm (by decide +kernel) (ja_cons ha (ja_cons hb ja_nil (Lv.le_full _) hs) (Lv.le_full _) hsa) (fun T vs Q o r q => by
    cases r with
    | cons r1 r2 =>
      cases r2 with
      | cons r2 r3 =>
        cases r3
        cases r1
        cases r2
        exact ⟨i, j, rfl, q _ T (Grow.refl o) (.int _)⟩) hg (by decide) (by decide) hsa hpl
theorem je_sum (hm : X.mg "sum" = none) (ha : JE X la e ρ (.il ns)) (hc : X.calm = true := by rfl) (hg : Gl X "sum" := by rfl) (he : starEach [e] X.env = (false, eval e X.env) :: starEach [] X.env := by exact star_c rfl) (hpl : (backTo pos (starEach [] X.env)).any (·.1) = false := by exact back_ns rfl) :
    JE X .frs (.Call (.Name "sum" p) [e] [] pos) ρ (.int ns.sum) :=
  je_callB (cr_sum hc) hm (by decide +kernel) (ja_cons ha ja_nil (Lv.le_full _) he) (fun T vs Q o r q => by
    cases r with
    | cons r1 r2 =>
      cases r2
      cases r1 with
      | il h =>
        have h := SqL.of (K := X.K) h
        exact ⟨_, _, rfl, h, q _ T (Grow.refl o) (.int _)⟩) hg (by decide) (by decide) he hpl
/-- the least of a list that isn't empty -/
def IsMin (ns : List Int) (m : Int) : Prop := m ∈ ns ∧ ∀ y, y ∈ ns → m ≤ y
def minI : List Int → Int
  | [] => 0
  | [n] => n
  | n :: r => min n (minI r)
theorem minI_is : ∀ {ns : List Int}, 0 < ns.length → IsMin ns (minI ns)
  | [], h => absurd h (by decide)
  | [n], _ => ⟨by simp [minI], fun y hy => by simp at hy; simp [minI, hy]⟩
  | n :: m :: r, _ => by
    have ih := minI_is (ns := m :: r) (by simp)
    obtain ⟨h1, h2⟩ := ih
    constructor
    · show min n (minI (m :: r)) ∈ _
      by_cases q : n ≤ minI (m :: r)
      · rw [Int.min_eq_left q]; exact List.mem_cons_self
      · rw [Int.min_eq_right (by omega)]; exact List.mem_cons_of_mem _ h1
    · intro y hy
      show min n (minI (m :: r)) ≤ y
      rcases List.mem_cons.mp hy with rfl | hy
      · exact Int.min_le_left _ _
      · have := h2 y hy
        omega
theorem IsMin.eq {ns : List Int} {m m' : Int} (h : IsMin ns m) (h' : IsMin ns m') : m = m' := by
  have h1 := h.2 _ h'.1
  have h2 := h'.2 _ h.1
  omega
theorem je_min (hm : X.mg "min" = none) (ha : JE X la e ρ (.il ns)) (h0 : 0 < ns.length) (hc : X.calm = true := by rfl) (hg : Gl X "min" := by rfl) (he : starEach [e] X.env = (false, eval e X.env) :: starEach [] X.env := by exact star_c rfl) (hpl : (backTo pos (starEach [] X.env)).any (·.1) = false := by exact back_ns rfl) :
    JE X .frs (.Call (.Name "min" p) [e] [] pos) ρ (.int (minI ns)) :=
  je_callB (cr_min hc) hm (by decide +kernel) (ja_cons ha ja_nil (Lv.le_full _) he) (fun T vs Q o r q => by
    cases r with
    | cons r1 r2 =>
      cases r2
      cases r1 with
      | il h =>
        have h := SqL.of (K := X.K) h
        exact ⟨_, _, rfl, h, h0, fun m h1 h2 => by
          have e : m = minI ns := IsMin.eq ⟨h1, h2⟩ (minI_is h0)
          rw [e]
          exact q _ T (Grow.refl o) (.int _)⟩) hg (by decide) (by decide) he hpl
theorem RpAll.of_bl {K : PySem.W.Frag} {H : Hp} : ∀ {vs : List V} {bs : List Bool}, RpAll K H vs (bs.map D.bl) → vs = bs.map V.bl
  | _, [], .nil => rfl
  | _, n :: r, .cons (.bl _) h => by rw [List.map_cons, RpAll.of_bl h]
theorem je_all {bs : List Bool} (hm : X.mg "all" = none) (ha : JE X la e ρ (.lst (bs.map D.bl))) (hc : X.calm = true := by rfl) (hg : Gl X "all" := by rfl) (he : starEach [e] X.env = (false, eval e X.env) :: starEach [] X.env := by exact star_c rfl) (hpl : (backTo pos (starEach [] X.env)).any (·.1) = false := by exact back_ns rfl) :
    JE X .frs (.Call (.Name "all" p) [e] [] pos) ρ (.bl (bs.all id)) :=
  je_callB (cr_all hc) hm (by decide +kernel) (ja_cons ha ja_nil (Lv.le_full _) he) (fun T vs Q o r q => by
    cases r with
    | cons r1 r2 =>
      cases r2
      cases r1 with
      | lst h rr =>
        have h := SqL.of (K := X.K) h
        have e := rr.of_bl
        subst e
        exact ⟨_, _, rfl, h, q _ T (Grow.refl o) (.bl _)⟩) hg (by decide) (by decide) he hpl
theorem je_any {bs : List Bool} (hm : X.mg "any" = none) (ha : JE X la e ρ (.lst (bs.map D.bl))) (hc : X.calm = true := by rfl) (hg : Gl X "any" := by rfl) (he : starEach [e] X.env = (false, eval e X.env) :: starEach [] X.env := by exact star_c rfl) (hpl : (backTo pos (starEach [] X.env)).any (·.1) = false := by exact back_ns rfl) :
    JE X .frs (.Call (.Name "any" p) [e] [] pos) ρ (.bl (bs.any id)) :=
  je_callB (cr_any hc) hm (by decide +kernel) (ja_cons ha ja_nil (Lv.le_full _) he) (fun T vs Q o r q => by
    cases r with
    | cons r1 r2 =>
      cases r2
      cases r1 with
      | lst h rr =>
        have h := SqL.of (K := X.K) h
        have e := rr.of_bl
        subst e
        exact ⟨_, _, rfl, h, q _ T (Grow.refl o) (.bl _)⟩) hg (by decide) (by decide) he hpl
/-- list(x): a new list -/
theorem joi_list (hm : X.mg "list" = none) (ha : JE X la e ρ (.il ns)) (hg : Gl X "list" := by rfl) (he : starEach [e] X.env = (false, eval e X.env) :: starEach [] X.env := by exact star_c rfl) (hpl : (backTo pos (starEach [] X.env)).any (·.1) = false := by exact back_ns rfl) :
    JOI X (.Call (.Name "list" p) [e] [] pos) ρ ns :=
  JOI.of (pe_callTy call_list_of hg hm (by decide +kernel) (pa_cons pe_w pa_nil he) (by decide) (by decide) he hpl) fun T σ Q F q => ha T σ _ F fun v T1 g1 r1 => by
    have r1' := r1.mono g1.ok.full
    cases r1' with
    | il h =>
      have h := SqL.of (K := X.K) h
      exact ⟨_, _, rfl, .inl h, fun p hp => q p (T1.put p _) (g1.trans (Grow.put g1.ok hp)) (Same.free g1.ex hp) (g1.ok.i_none hp) upd_same⟩
theorem jo_list (hm : X.mg "list" = none) (ha : JE X la e ρ (.lst ds)) (z : Lv.le la .imm = true := by rfl) (hg : Gl X "list" := by rfl) (he : starEach [e] X.env = (false, eval e X.env) :: starEach [] X.env := by exact star_c rfl) (hpl : (backTo pos (starEach [] X.env)).any (·.1) = false := by exact back_ns rfl) :
    JO X la (.Call (.Name "list" p) [e] [] pos) ρ ds :=
  JO.of (pe_callTy call_list_of hg hm (by decide +kernel) (pa_cons pe_w pa_nil he) (by decide) (by decide) he hpl) fun T σ Q F q => ha T σ _ F fun v T1 g1 r1 => by
    cases r1 with
    | lst h rr =>
      have h := SqL.of (K := X.K) h
      refine ⟨_, _, rfl, .inl (g1.ok.full.seq h), fun p hp => q p _ (T1.put p _) (g1.trans (Grow.put g1.ok hp)) (Same.free g1.ex hp) (g1.ok.i_none hp) upd_same ?_⟩
      cases la with
      | full => cases z
      | imm => exact rr
      | frs => exact rr
/-- xs.index(x): x is there -/
def ixOf (ns : List Int) (i : Int) : Nat := ns.findIdx (fun y => y == i)
theorem je_index {apos cpos : Pos} (ha : JE X la a ρ (.il ns)) (hb : JE X lb b ρ (.int i)) (hi : i ∈ ns) (hbm : ∀ (to : TE) (ta : TA), PE X a to → PA X [b] ta → PE X (.Call (.Attribute a "index" apos) [b] [] cpos) (tBM X.K "list" (rIndex X.K) to ta) := by
      exact fun to ta ho hx => pe_bm PySem.F.plainAttrs_list PySem.F.slot_list_index PySem.F.type_list_index mt_index ho hx)
    (he : starEach [b] X.env = (false, eval b X.env) :: starEach [] X.env := by exact star_c rfl) : JE X .frs (.Call (.Attribute a "index" apos) [b] [] cpos) ρ (.int (ixOf ns i)) :=
  JE.of (hbm _ _ pe_w (pa_cons pe_w pa_nil he)) fun T σ Q F q => ha T σ _ F fun v T1 g1 r1 => by
    have r1' := r1.mono g1.ok.full
    cases r1' with
    | il h =>
      have h := SqL.of (K := X.K) h
      refine ⟨?_, hb T1 σ _ (F.grow g1) fun u T2 g2 r2 => ?_⟩
      · exact .inl ⟨rfl, _, h⟩
      · cases r2
        have hlt : ixOf ns i < ns.length := List.findIdx_lt_length_of_exists ⟨i, hi, by simp⟩
        have hat : ns[ixOf ns i] = i := by
          have z : (ns[ixOf ns i] == i) = true := List.findIdx_getElem (p := fun y => y == i) (w := hlt)
          exact eq_of_beq z
        refine ⟨_, _, _, ixOf ns i, .int i, rfl, rfl, g2.ex.seq h, rfl, flat_ints ns, ?_, ?_, fun m z' hm hz => ?_, q _ T2 (g1.trans g2) (.int _)⟩
        · rw [List.getElem?_map, List.getElem?_eq_getElem hlt, hat]
          rfl
        · show (i == i) = true
          simp
        · rw [List.getElem?_map] at hz
          have hm' : m < ns.length := Nat.lt_trans hm hlt
          rw [List.getElem?_eq_getElem hm'] at hz
          cases hz
          show (ns[m] == i) = false
          have := List.not_of_lt_findIdx hm
          simpa using this

/-! ### isinstance -/
/-- a value's type, as isinstance asks for it -/
def tyOf (d : D) : Value := match d with
  | .non => .type "NoneType"
  | .bl _ => .type "bool"
  | .int _ => .type "int"
  | .str _ => .type "str"
  | .il _ => .type "list"
  | .scr _ => .type "list"
  | .lst _ => .type "list"
  | .tup _ => .type "tuple"
  | .obj C _ => .ref C
  | .ptr _ => .none
  | .dic => .type "dict"
/-- what isinstance asks of an own class -/
structure ClsI (K : PySem.W.Frag) (C : Addr) : Prop where
  cl : Cls K C
  ha : PySem.W.findIn K (.ref C) "__class__" = some (some (.builtin "object.__class__"))
  hn : PySem.W.specialIn K (.builtin "object.__class__") "__get__" = some (some (.builtin "getset_descriptor.__get__"))
  htk : PySem.W.takesIn K (.builtin "object.__class__") = some true
  hm : PySem.W.mroIn K C (.type "object") = some true
theorem sqL_ty {K : PySem.W.Frag} {H : Hp} {a : Addr} {xs : List V} (h : SqL K H a xs) : TyX K H (.ref a) (.type "list") := by
  rcases h with (h | ⟨o, h⟩) | ⟨o, its, n, h, hc, _⟩
  · exact .base (.lst h)
  · exact .base (.frz h)
  · exact .kList h hc
theorem sqT_ty {K : PySem.W.Frag} {H : Hp} {a : Addr} {xs : List V} (h : SqT K H a xs) : TyX K H (.ref a) (.type "tuple") := by
  rcases h with (h | ⟨o, h⟩) | ⟨o, its, n, h, hc, _⟩
  · exact .base (.tup h)
  · exact .fTuple h
  · exact .kTuple h hc
def clsOk (K : PySem.W.Frag) : D → Prop
  | .obj C _ => ClsI K C
  | .ptr _ => False
  | _ => True
theorem Rp.tyx {K : PySem.W.Frag} {H : Hp} {v : V} {d : D} (h : Rp K H v d) (o : clsOk K d) : TyX K H v (tyOf d) := by
  cases h with
  | non => exact .base .non
  | bl b => exact .base (.bl b)
  | int i => exact .base (.int i)
  | str x => exact .base (.str x)
  | il h => exact .base (.lst h)
  | scr h => exact sqL_ty h
  | lst h _ => exact .base (.lst h)
  | tup h _ => exact .base (.tup h)
  | obj h _ => exact .base (.ins h o.cl o.ha o.hn o.htk o.hm)
  | ptr b => exact o.elim
  | dic h => exact .base (.dK h)
/-- isinstance(e, T), T a built-in class -/
theorem je_isT {T : Str} {n : String} {b : Bool} {pt : Pos} (hm : X.mg "isinstance" = none) (hmT : X.mg T = none) (hT : bootBuiltins T = some (.type n)) (ha : JE X la e ρ d) (hk : PySem.W.kitOne X.K (tyOf d) (.type n) = some b) (ho : clsOk X.K d)
    (hg : Gl X "isinstance" := by rfl) (hgT : Gl X T := by rfl) (hn : T ≠ "__name__" := by decide) (hdb : (T == ("__debug__" : Str)) = false := by decide)
    (h1 : starEach [e, .Name T pt] X.env = (false, eval e X.env) :: starEach [.Name T pt] X.env := by exact star_c rfl) (h2 : starEach [.Name T pt] X.env = (false, eval (.Name T pt) X.env) :: starEach [] X.env := by exact star_c rfl)
    (hpl : (backTo pos (starEach [.Name T pt] X.env)).any (·.1) = false := by exact back_ns rfl) : JE X .frs (.Call (.Name "isinstance" p) [e, .Name T pt] [] pos) ρ (.bl b) :=
  JE.of (pe_callB call_isi hg hm (by decide +kernel) (pa_cons pe_w (pa_cons (pe_bltn (v := .ty n) hgT hmT hT rfl hn hdb) pa_nil h2) h1) (by decide) (by decide) h1 hpl) fun T σ Q F q => ha T σ _ F fun v T1 g1 r1 =>
    ⟨v, .ty n, tyOf d, _, b, rfl, .ty n, (r1.mono g1.ok.full).tyx ho, hk, q _ T1 g1 (.bl b)⟩
/-- isinstance(e, C), C an own class -/
theorem je_isC {T : Str} {C : Addr} {b : Bool} {pt : Pos} (hm : X.mg "isinstance" = none) (hmT : X.mg T = some (.ref C)) (ha : JE X la e ρ d) (hk : PySem.W.kitOne X.K (tyOf d) (.ref C) = some b) (ho : clsOk X.K d)
    (hg : Gl X "isinstance" := by rfl) (hgT : Gl X T := by rfl) (hdb : (T == ("__debug__" : Str)) = false := by decide)
    (h1 : starEach [e, .Name T pt] X.env = (false, eval e X.env) :: starEach [.Name T pt] X.env := by exact star_c rfl) (h2 : starEach [.Name T pt] X.env = (false, eval (.Name T pt) X.env) :: starEach [] X.env := by exact star_c rfl)
    (hpl : (backTo pos (starEach [.Name T pt] X.env)).any (·.1) = false := by exact back_ns rfl) : JE X .frs (.Call (.Name "isinstance" p) [e, .Name T pt] [] pos) ρ (.bl b) :=
  JE.of (pe_callB call_isi hg hm (by decide +kernel) (pa_cons pe_w (pa_cons (pe_glob (v := .ref C) hgT hmT rfl hdb) pa_nil h2) h1) (by decide) (by decide) h1 hpl) fun T σ Q F q => ha T σ _ F fun v T1 g1 r1 =>
    ⟨v, .ref C, tyOf d, _, b, rfl, .own C, (r1.mono g1.ok.full).tyx ho, hk, q _ T1 g1 (.bl b)⟩

/-! ### fields -/
theorem je_fld {C : Addr} {f : Str} {gs : List (Str × D)} (ha : JE X l e ρ (.obj C gs)) (hc : Cls X.K C) (hn : NoAttr X.K C f) (hf : gs.lookup f = some d) (hb : attributeBase e f X.env (eval e X.env) = eval e X.env := by rfl) : JE X l (.Attribute e f pos) ρ d :=
  JE.of (pe_fld pe_w hb) fun T σ Q F q => ha T σ _ F fun v T1 g1 r1 => by
    cases r1 with
    | obj h rr =>
      obtain ⟨w, h1, h2⟩ := rr.look hf
      exact ⟨_, C, _, _, w, rfl, g1.ok.full _ _ h, hc, hn, h1, q w T1 g1 h2⟩

/-! ### calls of defs -/
/-- the promise of a def: what it makes is new -/
def spF (K : PySem.W.Frag) (pre : List D → Prop) (G : List D → D) : Sp := fun vs H Q _ => ∃ ds, RpAll K H vs ds ∧ pre ds ∧ ∀ v H' Hn, Same H H' → Same Hn H' → (∀ a, Hn a ≠ none → H a = none) → Rp K Hn v (G ds) → Q v H'
def uni (A B : Hp) : Hp := fun a => match A a with | some o => some o | none => B a
theorem uni_l {A B : Hp} : Same A (uni A B) := fun a o h => by unfold uni; rw [h]
theorem uni_r {A B : Hp} (d : ∀ a, B a ≠ none → A a = none) : Same B (uni A B) := fun a o h => by
  unfold uni
  rw [d a (by rw [h]; intro z; cases z)]
  exact h
theorem uni_to {A B C : Hp} (h1 : Same A C) (h2 : Same B C) : Same (uni A B) C := fun a o h => by
  unfold uni at h
  cases e : A a with
  | none => rw [e] at h; exact h2 a o h
  | some u => rw [e] at h; cases h; exact h1 a _ e
theorem uni_mono {A A' B : Hp} (h : Same A A') (d : ∀ a, B a ≠ none → A' a = none) : Same (uni A B) (uni A' B) := uni_to (h.trans uni_l) (uni_r d)
theorem Grow.called {T : W3} (o : Ok T) {H' Hn : Hp} (h1 : Same T.h H') (h2 : Same Hn H') (dj : ∀ a, Hn a ≠ none → T.h a = none) : Grow T ⟨uni T.i Hn, uni T.n Hn, H'⟩ := by
  have di : ∀ a, Hn a ≠ none → T.i a = none := fun a h => o.i_none (dj a h)
  have fresh : ∀ {A : Hp} (a : Addr), A a = none → T.h a ≠ none → uni A Hn a = none := fun {A} a q r => by
    unfold uni
    rw [q]
    cases e : Hn a with
    | none => rfl
    | some u => exact absurd (dj a (by rw [e]; intro z; cases z)) r
  exact ⟨⟨uni_mono o.ni di, uni_to (o.ih.trans h1) h2⟩, h1, uni_l, uni_l, fun a q r => fresh a q r, fun a q r => fresh a q r⟩
structure Callee (P : Program) (w : World) (K : PySem.W.Frag) (mg : Str → Option Value) (base : Heap) (k : Nat) (x : Str) (pre : List D → Prop) (G : List D → D) : Prop where
  ex : ∃ (f : Addr) (fd : FuncData) (ps : List Str), FnOk P w K mg base CX0 k f fd ps (spF K pre G) ∧ mg x = some (.ref f) ∧ PySem.W.keepIn K (.ref f) = true ∧ Binds K fd ps []
theorem je_call {m n : Nat} {pre : List D → Prop} {G : List D → D} (C : Callee X.prog X.w X.K X.mg X.base m x pre G) (hr : Room n X.A) (ha : JA X .full (e :: es) ρ ds) (hp : pre ds) (hq : G ds = d := by rfl) (hk : m ≤ n := by decide) (hg : Gl X x := by rfl) (hdb : (x == ("__debug__" : Str)) = false := by decide)
    (he : starEach (e :: es) X.env = (false, eval e X.env) :: starEach es X.env := by exact star_c rfl) (hpl : (backTo pos (starEach es X.env)).any (·.1) = false := by exact back_ns rfl) : JE X .frs (.Call (.Name x p) (e :: es) [] pos) ρ d := by
  subst hq
  obtain ⟨f, fd, ps, F, hm, hkp, hb⟩ := C.ex
  exact JE.of (pe_call F (hr.mono hk) hg hm hkp hb .nil pass0 pa_w hdb he hpl) fun T σ Q Fm q => ha T σ _ Fm fun vs T1 g1 r1 =>
    ⟨ds, by rw [List.append_nil]; exact r1, hp, fun v H' Hn h1 h2 dj rv => q v ⟨uni T1.i Hn, uni T1.n Hn, H'⟩ (g1.trans (Grow.called g1.ok h1 h2 dj)) (rv.mono (uni_r fun a h => g1.ok.n_none (dj a h)))⟩
/-- a method -/
structure CalleeM (P : Program) (w : World) (K : PySem.W.Frag) (mg : Str → Option Value) (base : Heap) (k : Nat) (C : Addr) (x : Str) (pre : List D → Prop) (G : List D → D) : Prop where
  cl : Cls K C
  ex : ∃ (f : Addr) (fd : FuncData) (ps : List Str), FnOk P w K mg base CX0 k f fd ps (spF K pre G) ∧ Meth K C x f ∧ Binds K fd ps []
theorem je_meth {m n : Nat} {C : Addr} {apos : Pos} {gs : List (Str × D)} {pre : List D → Prop} {G : List D → D} (M : CalleeM X.prog X.w X.K X.mg X.base m C x pre G) (hr : Room n X.A) (ho : JE X la a ρ (.obj C gs)) (hno : gs.lookup x = none) (ha : JA X .full (e :: es) ρ ds) (hp : pre (.obj C gs :: ds)) (hq : G (.obj C gs :: ds) = d := by rfl) (hk : m ≤ n := by decide)
    (hpe : ∀ {f : Addr} {fd : FuncData} {ps : List Str} {to : TE} {ta : TA}, FnOk X.prog X.w X.K X.mg X.base CX0 m f fd ps (spF X.K pre G) → Meth X.K C x f → Binds X.K fd ps [] → Cls X.K C → Room m X.A → PE X a to → PA X (e :: es) ta → PE X (.Call (.Attribute a x apos) (e :: es) [] pos) (tMeth C x (spF X.K pre G) [] E0 to ta) := by
      exact fun F M B c r h1 h2 => pe_meth h1 c M F r B .nil pass0 h2) : JE X .frs (.Call (.Attribute a x apos) (e :: es) [] pos) ρ d := by
  subst hq
  obtain ⟨f, fd, ps, F, hm, hb⟩ := M.ex
  exact JE.of (hpe F hm hb M.cl (hr.mono hk) pe_w pa_w) fun T σ Q Fm q => ho T σ _ Fm fun v T0 g0 r0 => by
    have r0' := r0.mono g0.ok.full
    cases r0' with
    | @obj a C' dx fs _ h rr =>
      refine ⟨_, _, _, rfl, h, rr.no hno, ha T0 σ _ (Fm.grow g0) fun vs T1 g1 r1 => ?_⟩
      have g := g0.trans g1
      exact ⟨.obj C gs :: ds, .cons ((Rp.obj h rr).mono g1.ex) (by rw [List.append_nil]; exact r1), hp, fun v H' Hn h1 h2 dj rv => q v ⟨uni T1.i Hn, uni T1.n Hn, H'⟩ (g.trans (Grow.called g1.ok h1 h2 dj)) (rv.mono (uni_r fun a h => g1.ok.n_none (dj a h)))⟩
/-- a class made by its __init__ -/
def spI (K : PySem.W.Frag) (C : Addr) (pre : List D → Prop) (G : List D → List (Str × D)) : Sp := fun vs H Q _ => ∃ (x dx : Addr) (us : List V) (ds : List D), vs = .ref x :: us ∧ H x = some (.ins C dx []) ∧ RpAll K H us ds ∧ pre ds ∧
  ∀ fs H' Hn, (∀ b o, H b = some o → b ≠ x → H' b = some o) → H' x = some (.ins C dx fs) → Same Hn H' → (∀ a, Hn a ≠ none → H a = none) → RpF K Hn fs (G ds) → Q .non H'
structure Maker (P : Program) (w : World) (K : PySem.W.Frag) (mg : Str → Option Value) (base : Heap) (k : Nat) (x : Str) (C : Addr) (pre : List D → Prop) (G : List D → List (Str × D)) : Prop where
  mgC : mg x = some (.ref C)
  ex : ∃ (f : Addr) (fd : FuncData) (ps : List Str), FnOk P w K mg base CX0 k f fd ps (spI K C pre G) ∧ Mk K C f ∧ Binds K fd ps []
theorem je_make {m n : Nat} {C : Addr} {gs : List (Str × D)} {pre : List D → Prop} {G : List D → List (Str × D)} (M : Maker X.prog X.w X.K X.mg X.base m x C pre G) (hr : Room n X.A) (ha : JA X .full (e :: es) ρ ds) (hp : pre ds) (hq : G ds = gs := by rfl) (hk : m + 1 ≤ n := by decide) (hg : Gl X x := by rfl) (hdb : (x == ("__debug__" : Str)) = false := by decide)
    (he : starEach (e :: es) X.env = (false, eval e X.env) :: starEach es X.env := by exact star_c rfl) (hpl : (backTo pos (starEach es X.env)).any (·.1) = false := by exact back_ns rfl) : JE X .frs (.Call (.Name x p) (e :: es) [] pos) ρ (.obj C gs) := by
  subst hq
  obtain ⟨f, fd, ps, F, mk, hb⟩ := M.ex
  refine JE.of (pe_make mk F (hr.mono hk) hg M.mgC hb .nil pass0 pa_w hdb he hpl) fun T σ Q Fm q => ha T σ _ Fm fun vs T1 g1 r1 => ?_
  intro y dx ny nd ne
  have s1 : Same T1.h (upd (upd T1.h dx (.own y)) y (.ins C dx [])) := (same_new nd).trans (same_new (by rw [upd_ne ne.symm]; exact ny))
  refine ⟨y, dx, vs, ds, by rw [List.append_nil], upd_same, r1.mono s1, hp, fun fs H' Hn h1 h2 h3 dj rf => ⟨rfl, ?_⟩⟩
  have s2 : Same T1.h H' := Same.made ny nd h1
  have hny : Hn y = none := by
    cases e : Hn y with
    | none => rfl
    | some u =>
      have := dj y (by rw [e]; intro z; cases z)
      rw [upd_same] at this
      cases this
  have dj' : ∀ a, upd Hn y (.ins C dx fs) a ≠ none → T1.h a = none := fun a h => by
    by_cases z : a = y
    · rw [z]; exact ny
    · rw [upd_ne z] at h
      exact Same.free s1 (dj a h)
  exact q (.ref y) ⟨uni T1.i (upd Hn y (.ins C dx fs)), uni T1.n (upd Hn y (.ins C dx fs)), H'⟩ (g1.trans (Grow.called g1.ok s2 (same_up h3 h2) dj'))
    ((Rp.obj upd_same (rf.mono (same_new hny))).mono (uni_r fun a h => g1.ok.n_none (dj' a h)))
end
end Lf

set_option Elab.async false
set_option linter.all false
set_option maxRecDepth 100000
set_option maxHeartbeats 2000000
set_option autoImplicit false
namespace Lf
open PySem L2
section
variable {X : Cx} {e a b c : Expr} {es : List Expr} {ρ ρ1 : PEnv} {d d1 d2 d3 : D} {l la lb lc : Lv} {pos p p2 : Pos} {i j k : Int} {ns ms : List Int} {ds fs : List D} {kt : Nat} {x y z : Str} {st : Stmt} {sts : List Stmt} {P : PEnds}

/-! ### blocks -/
theorem jss_nil (h : P.nx ρ) : JSs X [] P ρ := JSs.of pss_nil fun T σ D F m => m.nx ρ σ T (Gw.refl F.ok) F h
theorem jss_cons (h : JS X st { P with nx := fun ρ' => JSs X sts P ρ' } ρ) : JSs X (st :: sts) P ρ :=
  JSs.of (pss_cons ps_w pss_w) fun T σ D F m => h T σ _ F ⟨fun ρ' σ' T' g F' j => j T' σ' D F' (m.gw g), m.rt, m.bk, m.ct, m.ru, m.rf⟩
theorem jss_one (h : JS X st P ρ) : JSs X [st] P ρ := JSs.of (pss_one ps_w) fun T σ D F m => h T σ _ F m
theorem js_doc {x : Str} {j : Nat} {p' : Pos} (h : P.nx ρ) : JS X (.Expr (.Constant (.str x) j p) p') P ρ := JS.of ps_doc fun T σ D F m => m.nx ρ σ T (Gw.refl F.ok) F h
theorem js_pass (h : P.nx ρ) : JS X (.Pass pos) P ρ := JS.of ps_pass fun T σ D F m => m.nx ρ σ T (Gw.refl F.ok) F h
theorem js_break (h : P.bk ρ) : JS X (.Break pos) P ρ := JS.of ps_break fun T σ D F m => m.bk ρ σ T (Gw.refl F.ok) F h
theorem js_continue (h : P.ct ρ) : JS X (.Continue pos) P ρ := JS.of ps_continue fun T σ D F m => m.ct ρ σ T (Gw.refl F.ok) F h
theorem js_expr (he : JE X l e ρ d) (h : P.nx ρ) (hs : swapsWith e none pos.line X.env = pure false := by exact sw_ns rfl) : JS X (.Expr e pos) P ρ :=
  JS.of (ps_expr pe_w hs) fun T σ D F m => he T σ _ F fun v T' g r => m.nx ρ σ T' g.w (F.grow g) h
theorem js_ret (he : JE X .frs e ρ d) (h : P.rt d) : JS X (.Return (some e) pos) P ρ :=
  JS.of (ps_ret pe_w) fun T σ D F m => he T σ _ F fun v T' g r => m.rt d v T' g.w h r
theorem js_retF (he : JE X .frs e ρ d) (h : P.rf ρ d) : JS X (.Return (some e) pos) P ρ :=
  JS.of (ps_ret pe_w) fun T σ D F m => he T σ _ F fun v T' g r => m.rf ρ σ d v T' g.w (F.grow g) h r
theorem js_retN (h : P.rt .non) : JS X (.Return none pos) P ρ := JS.of ps_retN fun T σ D F m => m.rt .non .non T (Gw.refl F.ok) h .non
theorem js_if {v : Bool} {s1 s2 : List Stmt} (hc : JT X c ρ v) (h1 : v = true → JSs X s1 P ρ) (h2 : v = false → JSs X s2 P ρ) : JS X (.If c s1 s2 pos) P ρ :=
  JS.of (ps_if pt_w pss_w pss_w) fun T σ D F m => hc T σ _ F fun T1 g1 => by
    cases v with
    | true => exact iteT (h1 rfl T1 σ D (F.grow g1) (m.gw g1.w))
    | false => exact iteF (h2 rfl T1 σ D (F.grow g1) (m.gw g1.w))
/-- the ends may be met otherwise -/
theorem JSs.imp {P' : PEnds} (h : JSs X sts P ρ) (hn : ∀ ρ', P.nx ρ' → P'.nx ρ') (hr : ∀ d, P.rt d → P'.rt d) (hb : ∀ ρ', P.bk ρ' → P'.bk ρ') (hc : ∀ ρ', P.ct ρ' → P'.ct ρ') (hu : ∀ d, P.ru d → P'.ru d) (hf : ∀ ρ d, P.rf ρ d → P'.rf ρ d) : JSs X sts P' ρ :=
  fun T σ D F m => h T σ D F ⟨fun ρ' σ' T' g F' q => m.nx ρ' σ' T' g F' (hn ρ' q), fun d v T' g q => m.rt d v T' g (hr d q), fun ρ' σ' T' g F' q => m.bk ρ' σ' T' g F' (hb ρ' q), fun ρ' σ' T' g F' q => m.ct ρ' σ' T' g F' (hc ρ' q), fun t v T' g q => m.ru t v T' g (hu _ q), fun ρ σ d v T' g F' q => m.rf ρ σ d v T' g F' (hf ρ d q)⟩
theorem JS.imp {P' : PEnds} (h : JS X st P ρ) (hn : ∀ ρ', P.nx ρ' → P'.nx ρ') (hr : ∀ d, P.rt d → P'.rt d) (hb : ∀ ρ', P.bk ρ' → P'.bk ρ') (hc : ∀ ρ', P.ct ρ' → P'.ct ρ') (hu : ∀ d, P.ru d → P'.ru d) (hf : ∀ ρ d, P.rf ρ d → P'.rf ρ d) : JS X st P' ρ :=
  fun T σ D F m => h T σ D F ⟨fun ρ' σ' T' g F' q => m.nx ρ' σ' T' g F' (hn ρ' q), fun d v T' g q => m.rt d v T' g (hr d q), fun ρ' σ' T' g F' q => m.bk ρ' σ' T' g F' (hb ρ' q), fun ρ' σ' T' g F' q => m.ct ρ' σ' T' g F' (hc ρ' q), fun t v T' g q => m.ru t v T' g (hu _ q), fun ρ σ d v T' g F' q => m.rf ρ σ d v T' g F' (hf ρ d q)⟩
/-- several ways meet -/
theorem js_cut (M : PEnv → Prop) (h : JS X st { P with nx := M } ρ) (hn : ∀ ρ', M ρ' → P.nx ρ') : JS X st P ρ := h.imp hn (fun _ q => q) (fun _ q => q) (fun _ q => q) (fun _ q => q) (fun _ _ q => q)
/-- an own list is kept as it is from now on -/
theorem jss_keepI (m : Nat) (hr : ρ[m]? = some (some (.ownI ns))) (h : JSs X sts P (ρ.set m (some (.v .frs (.il ns))))) : JSs X sts P ρ := fun T σ D F k => by
  obtain ⟨v, h1, a, rfl, h2, h3⟩ := F.val m _ hr
  obtain ⟨g, F'⟩ := F.keepO (d := .il ns) hr rfl h1 h2 h3 (.il upd_same)
  exact h (T.fix a _) σ D F' (k.gw g)
theorem jss_keepO (m : Nat) (hr : ρ[m]? = some (some (.own .frs ds))) (h : JSs X sts P (ρ.set m (some (.v .frs (.lst ds))))) : JSs X sts P ρ := fun T σ D F k => by
  obtain ⟨v, h1, _, a, vs, rfl, h2, h3, rr⟩ := F.val m _ hr
  obtain ⟨g, F'⟩ := F.keepO (d := .lst ds) hr rfl h1 h2 h3 (.lst upd_same (rr.mono (same_new (F.ok.n_none' h3))))
  exact h (T.fix a _) σ D F' (k.gw g)
/-- some names are forgotten -/
theorem JSs.forget (h : JSs X sts P ρ1) (hl : ρ1.length = ρ.length) (hh : ∀ (i : Nat) (e : E), ρ1[i]? = some (some e) → ρ[i]? = some (some e)) : JSs X sts P ρ := fun T σ D F m => h T σ D (F.forget hl hh) m

/-! ### names are bound -/
theorem js_set (n : Nat) {p' : Pos} (he : JE X l e ρ d) (h : P.nx (ρ.set n (some (.v l d)))) (hl : l ≠ .full := by decide) (hN : X.N.Nodup) (hi : X.N[n]? = some x := by rfl) (hx : Loc X.env.scope x := by first | exact Or.inl rfl | exact Or.inr rfl)
    (hs : swapsWith e (some (.Name x p')) pos.line X.env = pure false := by exact sw_ns rfl) (hf : X.fn x = true ∨ X.env.scope.names.lookup x = some .local := by exact Or.inl rfl) : JS X (.Assign [.Name x p'] e pos) P ρ :=
  JS.of (ps_set (i := n) hN hi hx pe_w hs hf) fun T σ D F m => he T σ _ F fun v T' g r => m.nx _ _ T' g.w ((F.grow g).set hl r) h
theorem js_setOI (n : Nat) {p' : Pos} (he : JOI X e ρ ns) (h : P.nx (ρ.set n (some (.ownI ns)))) (hN : X.N.Nodup) (hi : X.N[n]? = some x := by rfl) (hx : Loc X.env.scope x := by first | exact Or.inl rfl | exact Or.inr rfl)
    (hs : swapsWith e (some (.Name x p')) pos.line X.env = pure false := by exact sw_ns rfl) (hf : X.fn x = true ∨ X.env.scope.names.lookup x = some .local := by exact Or.inl rfl) : JS X (.Assign [.Name x p'] e pos) P ρ :=
  JS.of (ps_set (i := n) hN hi hx pe_w hs hf) fun T σ D F m => he T σ _ F fun a T' g h0 h1 h2 => m.nx _ _ T' g.w ((F.grow g).setOwn (e := .ownI ns) ⟨a, rfl, h2, h1⟩ (F.fresh h0)) h
theorem js_setO (n : Nat) {p' : Pos} (he : JO X l e ρ ds) (h : P.nx (ρ.set n (some (.own l ds)))) (hl : l ≠ .full := by decide) (hN : X.N.Nodup) (hi : X.N[n]? = some x := by rfl) (hx : Loc X.env.scope x := by first | exact Or.inl rfl | exact Or.inr rfl)
    (hs : swapsWith e (some (.Name x p')) pos.line X.env = pure false := by exact sw_ns rfl) (hf : X.fn x = true ∨ X.env.scope.names.lookup x = some .local := by exact Or.inl rfl) : JS X (.Assign [.Name x p'] e pos) P ρ :=
  JS.of (ps_set (i := n) hN hi hx pe_w hs hf) fun T σ D F m => he T σ _ F fun a vs T' g h0 h1 h2 r => m.nx _ _ T' g.w ((F.grow g).setOwn (e := .own l ds) ⟨hl, a, vs, rfl, h2, h1, r⟩ (F.fresh h0)) h
/-- x += e, of ints -/
theorem js_augA (n : Nat) {p' : Pos} (hr : ρ[n]? = some (some (.v la (.int i)))) (he : JE X l e ρ (.int j)) (h : P.nx (ρ.set n (some (.v .frs (.int (i + j)))))) (hN : X.N.Nodup) (hi : X.N[n]? = some x := by rfl) (hx : Loc X.env.scope x := by first | exact Or.inl rfl | exact Or.inr rfl)
    (hf : X.fn x = true ∨ X.env.scope.names.lookup x = some .local := by exact Or.inl rfl) : JS X (.AugAssign (.Name x p') .Add e pos) P ρ :=
  JS.of (ps_aug (i := n) hN hi hx pe_w ip_add hf) fun T σ D F m => by
    obtain ⟨v, h1, h2⟩ := F.val n _ hr
    obtain ⟨_, r⟩ := h2
    cases r
    refine ⟨_, h1, he T σ _ F fun v T' g r => ?_⟩
    cases r
    exact ⟨i, j, rfl, rfl, m.nx _ _ T' g.w ((F.grow g).set (by decide) (.int _)) h⟩
theorem js_augS (n : Nat) {p' : Pos} (hr : ρ[n]? = some (some (.v la (.int i)))) (he : JE X l e ρ (.int j)) (h : P.nx (ρ.set n (some (.v .frs (.int (i - j)))))) (hN : X.N.Nodup) (hi : X.N[n]? = some x := by rfl) (hx : Loc X.env.scope x := by first | exact Or.inl rfl | exact Or.inr rfl)
    (hf : X.fn x = true ∨ X.env.scope.names.lookup x = some .local := by exact Or.inl rfl) : JS X (.AugAssign (.Name x p') .Sub e pos) P ρ :=
  JS.of (ps_aug (i := n) hN hi hx pe_w ip_sub hf) fun T σ D F m => by
    obtain ⟨v, h1, h2⟩ := F.val n _ hr
    obtain ⟨_, r⟩ := h2
    cases r
    refine ⟨_, h1, he T σ _ F fun v T' g r => ?_⟩
    cases r
    exact ⟨i, j, rfl, rfl, m.nx _ _ T' g.w ((F.grow g).set (by decide) (.int _)) h⟩
/-- x, y = e1, e2 -/
theorem js_par (n m : Nat) {px py pt pt2 : Pos} {k1 k2 : Nat} (ha : JA X l [a, b] ρ [d1, d2]) (h : P.nx ((ρ.set n (some (.v l d1))).set m (some (.v l d2)))) (hl : l ≠ .full := by decide) (hN : X.N.Nodup) (hnm : n ≠ m := by decide) (hi : X.N[n]? = some x := by rfl) (hj : X.N[m]? = some y := by rfl)
    (hx : X.env.scope.names.lookup x = some .local := by rfl) (hy : X.env.scope.names.lookup y = some .local := by rfl) (hc : X.calm = true := by rfl)
    (hw : swappedStores [.Tuple [.Name x px, .Name y py] k1 pt] (.Tuple [a, b] k2 pt2) X.env = pure (some [x, y]) := by rfl)
    (hs : swapsWithSole [.Tuple [.Name x px, .Name y py] k1 pt] (.Tuple [a, b] k2 pt2) pos.line X.env = pure false := by exact sws_ns rfl) : JS X (.Assign [.Tuple [.Name x px, .Name y py] k1 pt] (.Tuple [a, b] k2 pt2) pos) P ρ :=
  JS.of (ps_par (i := n) (j := m) hc hN hi hj hnm hx hy pa_w hw hs) fun T σ D F mm => ha T σ _ F fun vs T' g r => by
    cases r with
    | cons r1 r2 =>
      cases r2 with
      | cons r2 r3 =>
        cases r3
        exact ⟨_, _, rfl, mm.nx _ _ T' g.w (((F.grow g).set hl r1).set hl r2) h⟩
/-! ### targets -/
def wG (X : Cx) (tg : Expr) : TG := fun v σ H Q => ∀ pins s u, Inv X pins σ H s → RelV v u → wpAny (model X.prog X.w) X.A (assign tg X.env u) (fun _ s' => ∃ σ' H', Inv X pins σ' H' s' ∧ Q σ' H') X.xe s
theorem pg_w {tg : Expr} : PG X tg (wG X tg) := ⟨fun pins s σ H v u Q I r h => h pins s u I r⟩
/-- a value d, held at l, is bound to the target -/
def JG (X : Cx) (tg : Expr) (l : Lv) (d : D) (ρ ρ' : PEnv) : Prop :=
  ∀ (T : W3) (σ : L2.St) (v : V) (Q : L2.St → Hp → Prop), Fr X.K T σ ρ → Rp X.K (T.at l) v d → (∀ σ', Fr X.K T σ' ρ' → Q σ' T.h) → wG X tg v σ T.h Q
theorem jg_name (n : Nat) (hN : X.N.Nodup) (hl : l ≠ .full := by decide) (hi : X.N[n]? = some x := by rfl) (hx : Loc X.env.scope x := by first | exact Or.inl rfl | exact Or.inr rfl) (hf : X.fn x = true ∨ X.env.scope.names.lookup x = some .local := by exact Or.inl rfl) :
    JG X (.Name x p) l d ρ (ρ.set n (some (.v l d))) := fun T σ v Q F r q pins s u I rv => (pg_name (i := n) hN hi hx hf).run pins s σ T.h v u Q I rv (q _ (F.set hl r))
theorem jg_pair (n m : Nat) {px py : Pos} {k1 : Nat} (hN : X.N.Nodup) (hl : l ≠ .full := by decide) (hi : X.N[n]? = some x := by rfl) (hj : X.N[m]? = some y := by rfl) (hx : Loc X.env.scope x := by first | exact Or.inl rfl | exact Or.inr rfl) (hy : Loc X.env.scope y := by first | exact Or.inl rfl | exact Or.inr rfl)
    (hf : X.fn x = true ∨ X.env.scope.names.lookup x = some .local := by exact Or.inl rfl) (hf2 : X.fn y = true ∨ X.env.scope.names.lookup y = some .local := by exact Or.inl rfl) (hc : X.calm = true := by rfl)
    (hs1 : (assignEach [.Name x px, .Name y py] X.env).map (·.2) = assign (.Name x px) X.env :: (assignEach [.Name y py] X.env).map (·.2) := by rfl) (hs2 : (assignEach [.Name y py] X.env).map (·.2) = assign (.Name y py) X.env :: (assignEach [] X.env).map (·.2) := by rfl)
    (hn : (assignEach [.Name x px, .Name y py] X.env).length = 2 := by rfl) (hst : (assignEach [.Name x px, .Name y py] X.env).findIdx? (·.1) = none := by rfl) :
    JG X (.Tuple [.Name x px, .Name y py] k1 p) l (.tup [d1, d2]) ρ ((ρ.set n (some (.v l d1))).set m (some (.v l d2))) := fun T σ v Q F r q pins s u I rv => by
  cases r with
  | tup h rr =>
    have h := SqT.of (K := X.K) h
    cases rr with
    | cons r1 rr =>
      cases rr with
      | cons r2 rr =>
        cases rr
        exact (pg_tup hc (pgs_cons (pg_name (i := n) hN hi hx hf) (pgs_cons (pg_name (i := m) hN hj hy hf2) pgs_nil hs2) hs1) hn hst).run pins s σ T.h _ u Q I rv
          ⟨_, _, rfl, seqT F.ok.full h, rfl, _, _, rfl, _, _, rfl, rfl, q _ ((F.set hl r1).set hl r2)⟩
/-- a target takes a value -/
theorem js_asg {tg : Expr} (he : JE X l e ρ d) (hg : JG X tg l d ρ ρ1) (h : P.nx ρ1) (hs : swapsWithSole [tg] e pos.line X.env = pure false := by exact sws_ns rfl) (hw : swappedStores [tg] e X.env = pure none := by first | exact ss_tup rfl | rfl)
    (h1 : (assignEach [tg] X.env).map (·.2) = [assign tg X.env] := by rfl) : JS X (.Assign [tg] e pos) P ρ :=
  JS.of (ps_asg pe_w pg_w hs hw h1) fun T σ D F m => he T σ _ F fun v T' g r => hg T' σ v _ (F.grow g) r fun σ' F' => m.nx _ _ T' g.w F' h

/-! ### own lists change -/
theorem js_appI (n : Nat) {apos cpos : Pos} (hr : ρ[n]? = some (some (.ownI ns))) (he : JE X l e ρ (.int i)) (h : P.nx (ρ.set n (some (.ownI (ns ++ [i]))))) (hz : ns.length < 100000) (hN : X.N[n]? = some x := by rfl)
    (hv : Vis X.env.scope x := by first | exact Or.inl rfl | exact Or.inr (Or.inl rfl) | exact Or.inr (Or.inr rfl)) (hd : (x == ("__debug__" : Str)) = false := by decide) (hcd : (x == ("__classdict__" : Str)) = false := by decide)
    (hbm : ∀ (to : TE) (ta : TA), PE X (.Name x p) to → PA X [e] ta → PE X (.Call (.Attribute (.Name x p) "append" apos) [e] [] cpos) (tBM X.K "list" rAppend to ta) := by
      exact fun to ta ho hx => pe_bm PySem.F.plainAttrs_list PySem.F.slot_list_append PySem.F.type_list_append mt_append ho hx)
    (hst : starEach [e] X.env = (false, eval e X.env) :: starEach [] X.env := by exact star_c rfl) (hs : swapsWith (.Call (.Attribute (.Name x p) "append" apos) [e] [] cpos) none pos.line X.env = pure false := by exact sw_ns rfl) :
    JS X (.Expr (.Call (.Attribute (.Name x p) "append" apos) [e] [] cpos) pos) P ρ :=
  JS.of (ps_expr (hbm _ _ (pe_var hN hv hd hcd) (pa_cons pe_w pa_nil hst)) hs) fun T σ D F m => by
    obtain ⟨v, h1, a, rfl, h2, h3⟩ := F.val n _ hr
    refine ⟨_, h1, .inl ⟨rfl, _, SqL.of h2⟩, he T σ _ F fun w T1 g1 r1 => ?_⟩
    cases r1
    have F1 := F.grow g1
    have h2' := g1.ex _ _ h2
    have h3' := g1.fi a h3 (by rw [h2]; intro z; cases z)
    refine ⟨a, _, _, rfl, rfl, h2', by rw [List.length_map]; exact small_lt hz, ?_⟩
    exact m.nx _ σ (T1.put a (.lst (ns.map V.int ++ [V.int i]))) (g1.w.trans (Gw.put g1.ok h3')) (F1.chg (e1 := .ownI (ns ++ [i])) hr rfl h1 rfl ⟨a, rfl, by rw [List.map_append]; exact upd_same, h3'⟩) h
theorem js_app (n : Nat) {apos cpos : Pos} (hr : ρ[n]? = some (some (.own l ds))) (he : JE X la e ρ d) (h : P.nx (ρ.set n (some (.own l (ds ++ [d]))))) (hz : ds.length < 100000) (hle : Lv.le la l = true := by rfl) (hN : X.N[n]? = some x := by rfl)
    (hv : Vis X.env.scope x := by first | exact Or.inl rfl | exact Or.inr (Or.inl rfl) | exact Or.inr (Or.inr rfl)) (hd : (x == ("__debug__" : Str)) = false := by decide) (hcd : (x == ("__classdict__" : Str)) = false := by decide)
    (hbm : ∀ (to : TE) (ta : TA), PE X (.Name x p) to → PA X [e] ta → PE X (.Call (.Attribute (.Name x p) "append" apos) [e] [] cpos) (tBM X.K "list" rAppend to ta) := by
      exact fun to ta ho hx => pe_bm PySem.F.plainAttrs_list PySem.F.slot_list_append PySem.F.type_list_append mt_append ho hx)
    (hst : starEach [e] X.env = (false, eval e X.env) :: starEach [] X.env := by exact star_c rfl) (hs : swapsWith (.Call (.Attribute (.Name x p) "append" apos) [e] [] cpos) none pos.line X.env = pure false := by exact sw_ns rfl) :
    JS X (.Expr (.Call (.Attribute (.Name x p) "append" apos) [e] [] cpos) pos) P ρ :=
  JS.of (ps_expr (hbm _ _ (pe_var hN hv hd hcd) (pa_cons pe_w pa_nil hst)) hs) fun T σ D F m => by
    obtain ⟨v, h1, hl, a, vs, rfl, h2, h3, rr⟩ := F.val n _ hr
    refine ⟨_, h1, .inl ⟨rfl, _, SqL.of h2⟩, he T σ _ F fun w T1 g1 r1 => ?_⟩
    have F1 := F.grow g1
    have h2' := g1.ex _ _ h2
    have h3' := g1.fi a h3 (by rw [h2]; intro z; cases z)
    refine ⟨a, _, w, rfl, rfl, h2', by rw [rr.length]; exact small_lt hz, ?_⟩
    refine m.nx _ σ (T1.put a (.lst (vs ++ [w]))) (g1.w.trans (Gw.put g1.ok h3')) (F1.chg (e1 := .own l (ds ++ [d])) hr rfl h1 rfl ⟨hl, a, _, rfl, upd_same, h3', ?_⟩) h
    have rw' := (rr.mono (g1.at l)).append (.cons (r1.mono (g1.ok.le hle)) .nil)
    cases l with
    | full => exact absurd rfl hl
    | imm => exact rw'
    | frs => exact rw'
theorem js_popI (n : Nat) {apos cpos : Pos} (hr : ρ[n]? = some (some (.ownI ns))) (h : P.nx (ρ.set n (some (.ownI ns.dropLast)))) (hz : 0 < ns.length) (hN : X.N[n]? = some x := by rfl)
    (hv : Vis X.env.scope x := by first | exact Or.inl rfl | exact Or.inr (Or.inl rfl) | exact Or.inr (Or.inr rfl)) (hd : (x == ("__debug__" : Str)) = false := by decide) (hcd : (x == ("__classdict__" : Str)) = false := by decide)
    (hbm : ∀ (to : TE), PE X (.Name x p) to → PE X (.Call (.Attribute (.Name x p) "pop" apos) [] [] cpos) (tBM0 X.K "list" rPop to) := by
      exact fun to ho => pe_bm0 PySem.F.plainAttrs_list PySem.F.slot_list_pop PySem.F.type_list_pop mt_pop ho)
    (hs : swapsWith (.Call (.Attribute (.Name x p) "pop" apos) [] [] cpos) none pos.line X.env = pure false := by exact sw_ns rfl) :
    JS X (.Expr (.Call (.Attribute (.Name x p) "pop" apos) [] [] cpos) pos) P ρ :=
  JS.of (ps_expr (hbm _ (pe_var hN hv hd hcd)) hs) fun T σ D F m => by
    obtain ⟨v, h1, a, rfl, h2, h3⟩ := F.val n _ hr
    refine ⟨_, h1, .inl ⟨rfl, _, SqL.of h2⟩, a, _, .int (ns[ns.length - 1]'(by omega)), rfl, rfl, h2, ?_, ?_⟩
    · rw [List.length_map, List.getElem?_map, List.getElem?_eq_getElem (by omega)]
      rfl
    · exact m.nx _ σ (T.put a (.lst (ns.map V.int).dropLast)) (Gw.put F.ok h3) (F.chg (e1 := .ownI ns.dropLast) hr rfl h1 rfl ⟨a, rfl, by rw [List.map_dropLast]; exact upd_same, h3⟩) h
/-- xs[i] = e of an own list of ints -/
theorem ixN_some {n : Nat} {i : Int} (h : inR n i) : ∃ j, j < n ∧ ixN n i = some j ∧ ((0 ≤ i ∧ j = i.toNat) ∨ (i < 0 ∧ j = (i + n).toNat)) := by
  obtain ⟨h1, h2⟩ := h
  unfold ixN
  by_cases h0 : 0 ≤ i
  · rw [if_pos h0, if_pos h2]
    exact ⟨i.toNat, by omega, rfl, .inl ⟨h0, rfl⟩⟩
  · rw [if_neg h0, if_pos h1]
    exact ⟨(i + n).toNat, by omega, rfl, .inr ⟨by omega, rfl⟩⟩
def setI (ns : List Int) (i v : Int) : List Int := ns.set (if 0 ≤ i then i.toNat else (i + ns.length).toNat) v
theorem js_setI (n : Nat) {pt : Pos} (hr : ρ[n]? = some (some (.ownI ns))) (he : JE X l e ρ (.int k)) (hb : JE X lb b ρ (.int i)) (hin : inR ns.length i) (h : P.nx (ρ.set n (some (.ownI (setI ns i k))))) (hN : X.N[n]? = some x := by rfl)
    (hv : Vis X.env.scope x := by first | exact Or.inl rfl | exact Or.inr (Or.inl rfl) | exact Or.inr (Or.inr rfl)) (hd : (x == ("__debug__" : Str)) = false := by decide) (hcd : (x == ("__classdict__" : Str)) = false := by decide)
    (hgs : ∀ (to ti : TE), PE X (.Name x p) to → PE X b ti → PG X (.Subscript (.Name x p) b pt) (gSub to ti rSetL) := by exact fun to ti h1 h2 => pg_sub h1 h2 set_list)
    (hs : swapsWithSole [.Subscript (.Name x p) b pt] e pos.line X.env = pure false := by exact sws_ns rfl) (hw : swappedStores [.Subscript (.Name x p) b pt] e X.env = pure none := by exact ss_sub)
    (h1 : (assignEach [.Subscript (.Name x p) b pt] X.env).map (·.2) = [assign (.Subscript (.Name x p) b pt) X.env] := by rfl) : JS X (.Assign [.Subscript (.Name x p) b pt] e pos) P ρ :=
  JS.of (ps_asg pe_w (hgs _ _ (pe_var hN hv hd hcd) pe_w) hs hw h1) fun T σ D F m => he T σ _ F fun w T1 g1 r1 => by
    cases r1
    obtain ⟨v, h1, a, rfl, h2, h3⟩ := F.val n _ hr
    refine ⟨_, h1, hb T1 σ _ (F.grow g1) fun u T2 g2 r2 => ?_⟩
    cases r2
    have g := g1.trans g2
    obtain ⟨j, hj, ej, q⟩ := ixN_some hin
    have h2' := g.ex _ _ h2
    have h3' := g.fi a h3 (by rw [h2]; intro z; cases z)
    refine ⟨a, _, i, j, rfl, rfl, h2', by rw [List.length_map]; exact ej, ?_⟩
    have es : (ns.map V.int).set j (V.int k) = (setI ns i k).map V.int := by
      unfold setI
      rcases q with ⟨h0, rfl⟩ | ⟨h0, rfl⟩
      · rw [if_pos h0, List.map_set]
      · rw [if_neg (by omega), List.map_set]
    rw [es]
    exact m.nx _ σ (T2.put a (.lst ((setI ns i k).map V.int))) (g.w.trans (Gw.put g.ok h3')) ((F.grow g).chg (e1 := .ownI (setI ns i k)) hr rfl h1 rfl ⟨a, rfl, upd_same, h3'⟩) h

/-! ### what is walked -/
def wI (X : Cx) (tg iter : Expr) : TI := fun σ H R => ∀ pins s, Inv X pins σ H s → wpAny (model X.prog X.w) X.A (eval iter X.env) (fun v s1 => wpAny (model X.prog X.w) X.A (pyIter v) (PIE X pins σ tg R) X.xe s1) X.xe s
theorem pi_w {tg iter : Expr} : PI X tg iter (wI X tg iter) := ⟨fun pins s σ H R I h => h pins s I⟩
/-- J walks ds -/
def Walks (K : PySem.W.Frag) (T0 : W3) (J : It) (l : Lv) (ds : List D) : Prop := ∀ (T : W3) (i : Nat), Same T0.i T.i → Same T0.n T.n → Ok T →
  (∀ d, ds[i]? = some d → J.go i T.h ∧ ∀ x H', J.yld i T.h x H' → ∃ T', T'.h = H' ∧ Grow T T' ∧ Rp K (T'.at l) x d) ∧ (ds[i]? = none → J.stop i T.h)
def JI (X : Cx) (tg iter : Expr) (l : Lv) (ρ : PEnv) (ds : List D) : Prop :=
  ∀ (T : W3) (σ : L2.St) (R : It → Hp → Prop), Fr X.K T σ ρ → (∀ J T', Grow T T' → Walks X.K T' J l ds → R J T'.h) → wI X tg iter σ T.h R
theorem JI.of {tg iter : Expr} {ti : TI} (h : PI X tg iter ti) (r : ∀ (T : W3) (σ : L2.St) (R : It → Hp → Prop), Fr X.K T σ ρ → (∀ J T', Grow T T' → Walks X.K T' J l ds → R J T'.h) → ti σ T.h R) : JI X tg iter l ρ ds :=
  fun T σ R F q pins s I => h.run pins s σ T.h R I (r T σ R F q)
theorem ji_list {tg : Expr} (ha : JE X la a ρ (.il ns)) (z : Lv.le la .imm = true := by rfl) : JI X tg a .frs ρ (ns.map D.int) :=
  JI.of (pi_list pe_w) fun T σ R F q => ha T σ _ F fun v T1 g1 r1 => by
    cases r1 with
    | il h =>
      have h := SqL.of (K := X.K) h
      have hi := (g1.ok.le z).seq h
      refine ⟨_, rfl, ⟨_, g1.ok.ih.seq hi⟩, q _ T1 g1 fun T' i s sn o => ⟨fun d e => ?_, fun e => ?_⟩⟩
      · have e' : ns[i]?.map D.int = some d := by rw [← List.getElem?_map]; exact e
        cases en : ns[i]? with
        | none => rw [en] at e'; cases e'
        | some n =>
          rw [en] at e'
          cases e'
          have hx : (ns.map V.int)[i]? = some (.int n) := by rw [List.getElem?_map, en]; rfl
          refine ⟨⟨_, _, (s.trans o.ih).seq hi, hx⟩, fun x H' y => ?_⟩
          obtain ⟨rfl, y⟩ := y
          have ex := y _ ((s.trans o.ih).seq hi)
          rw [hx] at ex
          cases ex
          exact ⟨T', rfl, Grow.refl o, .int n⟩
      · refine ⟨_, (s.trans o.ih).seq hi, ?_⟩
        have := List.getElem?_eq_none_iff.mp e
        rw [List.length_map] at this ⊢
        exact this
theorem ji_lst {tg : Expr} (ha : JE X l a ρ (.lst ds)) (z : Lv.le l .imm = true := by rfl) : JI X tg a l ρ ds :=
  JI.of (pi_list pe_w) fun T σ R F q => ha T σ _ F fun v T1 g1 r1 => by
    cases r1 with
    | lst h rr =>
      have h := SqL.of (K := X.K) h
      have hi := (g1.ok.le z).seq h
      have rn : ∀ (T' : W3), Same T1.i T'.i → Ok T' → ∀ {x : V} {d : D}, Rp X.K (T1.at .imm) x d → Rp X.K (T'.at .imm) x d := fun T' s o x d r => r.mono s
      refine ⟨_, rfl, ⟨_, g1.ok.ih.seq hi⟩, ?_⟩
      cases l with
      | full => cases z
      | imm =>
        refine q _ T1 g1 fun T' i s sn o => ⟨fun d e => ?_, fun e => ?_⟩
        · obtain ⟨w, e1, e2⟩ := rr.get e
          refine ⟨⟨_, _, (s.trans o.ih).seq hi, e1⟩, fun x H' y => ?_⟩
          obtain ⟨rfl, y⟩ := y
          have ex := y _ ((s.trans o.ih).seq hi)
          rw [e1] at ex
          cases ex
          exact ⟨T', rfl, Grow.refl o, e2.mono s⟩
        · refine ⟨_, (s.trans o.ih).seq hi, ?_⟩
          have := List.getElem?_eq_none_iff.mp e
          rw [rr.length]
          exact this
      | frs =>
        have rr' := rr.mono g1.ok.ni
        refine q _ T1 g1 fun T' i s sn o => ⟨fun d e => ?_, fun e => ?_⟩
        · obtain ⟨w, e1, e2⟩ := rr.get e
          refine ⟨⟨_, _, (s.trans o.ih).seq hi, e1⟩, fun x H' y => ?_⟩
          obtain ⟨rfl, y⟩ := y
          have ex := y _ ((s.trans o.ih).seq hi)
          rw [e1] at ex
          cases ex
          exact ⟨T', rfl, Grow.refl o, e2.mono sn⟩
        · refine ⟨_, (s.trans o.ih).seq hi, ?_⟩
          have := List.getElem?_eq_none_iff.mp e
          rw [rr.length]
          exact this
end
end Lf

set_option Elab.async false
set_option linter.all false
set_option maxRecDepth 100000
set_option maxHeartbeats 2000000
set_option autoImplicit false
namespace Lf
open PySem L2
section
variable {X : Cx} {e a b c : Expr} {es : List Expr} {ρ ρ1 : PEnv} {d d1 d2 d3 : D} {l la lb lc : Lv} {pos p p2 : Pos} {i j k : Int} {ns ms : List Int} {ds fs : List D} {kt : Nat} {x y z : Str} {st : Stmt} {sts : List Stmt} {P : PEnds}
/-- a tuple is walked -/
theorem ji_tup {tg : Expr} (ha : JE X l a ρ (.tup ds)) (z : Lv.le l .imm = true := by rfl) : JI X tg a l ρ ds :=
  JI.of (pi_tup pe_w) fun T σ R F q => ha T σ _ F fun v T1 g1 r1 => by
    cases r1 with
    | tup h rr =>
      have h := SqT.of (K := X.K) h
      have hi := seqT (g1.ok.le z) h
      refine ⟨_, rfl, ⟨_, seqT g1.ok.ih hi⟩, q _ T1 g1 fun T' i s sn o => ⟨fun d e => ?_, fun e => ?_⟩⟩
      · obtain ⟨w, e1, e2⟩ := rr.get e
        refine ⟨⟨_, _, seqT (s.trans o.ih) hi, e1⟩, fun x H' y => ?_⟩
        obtain ⟨rfl, y⟩ := y
        have ex := y _ (seqT (s.trans o.ih) hi)
        rw [e1] at ex
        cases ex
        refine ⟨T', rfl, Grow.refl o, ?_⟩
        cases l with
        | full => cases z
        | imm => exact e2.mono s
        | frs => exact e2.mono sn
      · refine ⟨_, seqT (s.trans o.ih) hi, ?_⟩
        have := List.getElem?_eq_none_iff.mp e
        rw [rr.length]
        exact this
/-- lo, lo + 1, .. -/
def rngI (lo : Int) (n : Nat) : List Int := (List.range n).map fun (i : Nat) => lo + (i : Int)
theorem rngI_get {lo : Int} {n i : Nat} : (rngI lo n)[i]? = if i < n then some (lo + (i : Int)) else none := by
  unfold rngI
  rw [List.getElem?_map]
  by_cases h : i < n
  · rw [if_pos h, List.getElem?_range h]; rfl
  · rw [if_neg h, List.getElem?_eq_none (by simpa using h)]; rfl
theorem rngI_length {lo : Int} {n : Nat} : (rngI lo n).length = n := by unfold rngI; simp
theorem walks_range {lo : Int} {n : Nat} {T0 : W3} : Walks X.K T0 (Itr lo n) .frs ((rngI lo n).map D.int) := fun T i s sn o => by
  constructor
  · intro d e
    rw [List.getElem?_map, rngI_get] at e
    by_cases h : i < n
    · rw [if_pos h] at e
      cases e
      refine ⟨h, fun x H' y => ?_⟩
      obtain ⟨rfl, rfl⟩ := y
      exact ⟨T, rfl, Grow.refl o, .int _⟩
    · rw [if_neg h] at e
      cases e
  · intro e
    rw [List.getElem?_map, rngI_get] at e
    by_cases h : i < n
    · rw [if_pos h] at e
      cases e
    · exact Nat.le_of_not_lt h
theorem ji_range {tg : Expr} (hm : X.mg "range" = none) (ha : JE X la a ρ (.int i)) (hz : i ≤ 100000) (h0 : -100000 ≤ i) (hg : Gl X "range" := by rfl) (hs : starEach [a] X.env = [(false, eval a X.env)] := by exact star_1 rfl) : JI X tg (.Call (.Name "range" p) [a] [] pos) .frs ρ ((rngI 0 i.toNat).map D.int) :=
  JI.of (pi_range1 hg hm (pa_cons pe_w pa_nil hs) hs) fun T σ R F q => ha T σ _ F fun v T1 g1 r1 => by
    cases r1
    exact ⟨i, rfl, by omega, by omega, q _ T1 g1 walks_range⟩
theorem ji_range2 {tg : Expr} (hm : X.mg "range" = none) (ha : JE X la a ρ (.int i)) (hb : JE X lb b ρ (.int j)) (hz : -100000 ≤ i ∧ i ≤ 100000) (hz2 : -100000 ≤ j ∧ j ≤ 100000) (hg : Gl X "range" := by rfl) (hs : starEach [a, b] X.env = [(false, eval a X.env), (false, eval b X.env)] := by exact star_1 rfl)
    (hs2 : starEach [b] X.env = [(false, eval b X.env)] := by exact star_1 rfl) : JI X tg (.Call (.Name "range" p) [a, b] [] pos) .frs ρ ((rngI i (j - i).toNat).map D.int) :=
  JI.of (pi_range2 hg hm (pa_cons pe_w (pa_cons pe_w pa_nil hs2) (by rw [hs, hs2])) hs hs2) fun T σ R F q => ha T σ _ F fun v T1 g1 r1 => hb T1 σ _ (F.grow g1) fun u T2 g2 r2 => by
    cases r1
    cases r2
    exact ⟨i, j, rfl, by omega, q _ T2 (g1.trans g2) walks_range⟩
/-- reversed(range(n)) -/
theorem ji_revRange {tg : Expr} {p3 pos3 : Pos} (hm : X.mg "reversed" = none) (hm2 : X.mg "range" = none) (ha : JE X la a ρ (.int i)) (hz : -100000 ≤ i ∧ i ≤ 100000) (hg : Gl X "reversed" := by rfl) (hg2 : Gl X "range" := by rfl) (na : starEach [a] X.env = (false, eval a X.env) :: starEach [] X.env := by exact star_c rfl)
    (hs : starEach [.Call (.Name "range" p3) [a] [] pos3] X.env = (false, eval (.Call (.Name "range" p3) [a] [] pos3) X.env) :: starEach [] X.env := by exact star_c rfl) :
    JI X tg (.Call (.Name "reversed" p) [.Call (.Name "range" p3) [a] [] pos3] [] pos) .frs ρ ((rngI 0 i.toNat).reverse.map D.int) :=
  JI.of (pi_revR hg hm (prg_1 hg2 hm2 pe_w na) hs) fun T σ R F q => ha T σ _ F fun v T1 g1 r1 => by
    cases r1
    refine ⟨i, rfl, by omega, by omega, by omega, by omega, q _ T1 g1 fun T' t s sn o => ?_⟩
    have hn : (i - 0).toNat = i.toNat := by rw [Int.sub_zero]
    constructor
    · intro d e
      have ht : t < i.toNat := by
        have := (List.getElem?_eq_some_iff.mp e).1
        rw [List.length_map, List.length_reverse, rngI_length] at this
        exact this
      rw [List.getElem?_map, List.getElem?_reverse (by rw [rngI_length]; exact ht), rngI_get, rngI_length, if_pos (by omega)] at e
      cases e
      refine ⟨by show t < (i - 0).toNat; rw [hn]; exact ht, fun x H' y => ?_⟩
      obtain ⟨rfl, rfl⟩ := y
      refine ⟨T', rfl, Grow.refl o, ?_⟩
      rw [hn]
      have ee : (0 : Int) + (i.toNat : Int) - 1 + (t : Int) * -1 = 0 + ((i.toNat - 1 - t : Nat) : Int) := by omega
      rw [ee]
      exact .int _
    · intro e
      have := List.getElem?_eq_none_iff.mp e
      rw [List.length_map, List.length_reverse, rngI_length] at this
      show (i - 0).toNat ≤ t
      rw [hn]
      exact this
/-- enumerate(xs), of ints -/
def enumI (ns : List Int) : List D := (List.range ns.length).map fun (i : Nat) => .tup [.int (i : Int), .int (ns.getD i 0)]
theorem enumI_get {i : Nat} {n : Int} (h : ns[i]? = some n) : (enumI ns)[i]? = some (.tup [.int i, .int n]) := by
  unfold enumI
  have hi := (List.getElem?_eq_some_iff.mp h).1
  rw [List.getElem?_map, List.getElem?_range hi, Option.map_some, List.getD_eq_getElem?_getD, h]
  rfl
theorem enumI_length : (enumI ns).length = ns.length := by unfold enumI; simp
theorem ji_enum {elts : List Expr} {kk : Nat} {tpos : Pos} (hm : X.mg "enumerate" = none) (ha : JE X la a ρ (.il ns)) (z : Lv.le la .imm = true := by rfl) (hg : Gl X "enumerate" := by rfl) (hs : starEach [a] X.env = [(false, eval a X.env)] := by exact star_1 rfl) :
    JI X (.Tuple elts kk tpos) (.Call (.Name "enumerate" p) [a] [] pos) .frs ρ (enumI ns) :=
  JI.of (pi_enum hg hm (pa_cons pe_w pa_nil hs) hs) fun T σ R F q => ha T σ _ F fun v T1 g1 r1 => by
    cases r1 with
    | il h =>
      have h := SqL.of (K := X.K) h
      have hi := (g1.ok.le z).seq h
      refine ⟨_, _, rfl, g1.ok.ih.seq hi, q _ T1 g1 fun T' i s sn o => ⟨fun d e => ?_, fun e => ?_⟩⟩
      · have hlt : i < ns.length := by
          have := (List.getElem?_eq_some_iff.mp e).1
          rw [enumI_length] at this
          exact this
        have en : ns[i]? = some ns[i] := List.getElem?_eq_getElem hlt
        rw [enumI_get en] at e
        cases e
        have hx : (ns.map V.int)[i]? = some (.int ns[i]) := by rw [List.getElem?_map, en]; rfl
        have hq := (s.trans o.ih).seq hi
        refine ⟨⟨_, _, hq, hx⟩, fun x H' y => ?_⟩
        obtain ⟨t, w, rfl, ht, rfl, y⟩ := y
        have ex := y _ hq
        rw [hx] at ex
        cases ex
        exact ⟨(T'.put t _).fix t _, rfl, (Grow.put o ht).fix ht (o.i_none ht) upd_same, .tup upd_same (.cons (.int _) (.cons (.int _) .nil))⟩
      · refine ⟨_, (s.trans o.ih).seq hi, ?_⟩
        have := List.getElem?_eq_none_iff.mp e
        rw [enumI_length] at this
        rw [List.length_map]
        exact this
/-- zip(xs, ys), of ints -/
def zipI (ns ms : List Int) : List D := (List.zip ns ms).map fun p => .tup [.int p.1, .int p.2]
theorem ji_zip {elts : List Expr} {kk : Nat} {tpos : Pos} (hm : X.mg "zip" = none) (ha : JE X la a ρ (.il ns)) (hb : JE X lb b ρ (.il ms)) (z : Lv.le la .imm = true := by rfl) (z2 : Lv.le lb .imm = true := by rfl) (hg : Gl X "zip" := by rfl) (hs : starEach [a, b] X.env = (false, eval a X.env) :: starEach [b] X.env := by exact star_c rfl)
    (hs2 : starEach [b] X.env = (false, eval b X.env) :: starEach [] X.env := by exact star_c rfl) (hpl : (backTo pos (starEach [b] X.env)).any (·.1) = false := by exact back_ns rfl) : JI X (.Tuple elts kk tpos) (.Call (.Name "zip" p) [a, b] [] pos) .frs ρ (zipI ns ms) :=
  JI.of (pi_zip hg hm (pa_cons pe_w (pa_cons pe_w pa_nil hs2) hs) hs hpl) fun T σ R F q => ha T σ _ F fun v T1 g1 r1 => hb T1 σ _ (F.grow g1) fun u T2 g2 r2 => by
    have g := g1.trans g2
    cases r1 with
    | il h =>
      have h := SqL.of (K := X.K) h
      cases r2 with
      | il h2 =>
        have h2 := SqL.of (K := X.K) h2
        have hi := g2.xi.seq ((g1.ok.le z).seq h)
        have hi2 := (g2.ok.le z2).seq h2
        refine ⟨_, _, _, _, rfl, g2.ok.ih.seq hi, g2.ok.ih.seq hi2, q _ T2 g fun T' i s sn o => ⟨fun d e => ?_, fun e => ?_⟩⟩
        · have hlt : i < ns.length ∧ i < ms.length := by
            have := (List.getElem?_eq_some_iff.mp e).1
            unfold zipI at this
            rw [List.length_map, List.length_zip] at this
            omega
          have hq := (s.trans o.ih).seq hi
          have hq2 := (s.trans o.ih).seq hi2
          have en : ns[i]? = some ns[i] := List.getElem?_eq_getElem hlt.1
          have em : ms[i]? = some ms[i] := List.getElem?_eq_getElem hlt.2
          have hx : (ns.map V.int)[i]? = some (.int ns[i]) := by rw [List.getElem?_map, en]; rfl
          have hy : (ms.map V.int)[i]? = some (.int ms[i]) := by rw [List.getElem?_map, em]; rfl
          have ed : d = .tup [.int ns[i], .int ms[i]] := by
            unfold zipI at e
            rw [List.getElem?_map, List.getElem?_eq_getElem (by rw [List.length_zip]; omega), List.getElem_zip] at e
            cases e
            rfl
          subst ed
          refine ⟨⟨_, _, _, _, hq, hq2, hx, hy⟩, fun x H' y => ?_⟩
          obtain ⟨t, w, w2, rfl, ht, rfl, y1, y2⟩ := y
          have ex := y1 _ hq
          rw [hx] at ex
          cases ex
          have ey := y2 _ hq2
          rw [hy] at ey
          cases ey
          exact ⟨(T'.put t _).fix t _, rfl, (Grow.put o ht).fix ht (o.i_none ht) upd_same, .tup upd_same (.cons (.int _) (.cons (.int _) .nil))⟩
        · refine ⟨_, _, (s.trans o.ih).seq hi, (s.trans o.ih).seq hi2, ?_⟩
          have := List.getElem?_eq_none_iff.mp e
          unfold zipI at this
          rw [List.length_map, List.length_zip] at this
          rw [List.length_map, List.length_map]
          omega

/-! ### for, while -/
theorem drop_cons {α : Type} {xs : List α} {i : Nat} {x : α} (h : xs[i]? = some x) : xs.drop i = x :: xs.drop (i + 1) := by
  obtain ⟨h1, h2⟩ := List.getElem?_eq_some_iff.mp h
  rw [← h2]
  exact List.drop_eq_getElem_cons h1
/-- a for: inv holds of what is still to come and of the names -/
theorem js_for {tg iter : Expr} {body : List Stmt} (inv : List D → PEnv → Prop) (hi : JI X tg iter l ρ ds) (h0 : inv ds ρ)
    (hs : ∀ d rest ρ', inv (d :: rest) ρ' → ∃ ρ2, JG X tg l d ρ' ρ2 ∧ JSs X body { nx := inv rest, rt := P.rt, bk := P.nx, ct := inv rest } ρ2) (hd : ∀ ρ', inv [] ρ' → P.nx ρ')
    (hp : PassesOwn (model X.prog X.w) X.A X.env X.xe := by exact PassesOwn.never) (hc : X.calm = true := by rfl) (hf : ∀ x, foldedSetIterable iter X.env x = pure x := by exact fs_ns rfl) : JS X (.For tg iter body [] pos) P ρ :=
  JS.of (ps_for hp hc pi_w pg_w pss_w hf) fun T σ D F m => hi T σ _ F fun J T1 g1 W => by
    have F1 := F.grow g1
    refine ⟨fun i m σ H => m = ds.length - i ∧ i ≤ ds.length ∧ ∃ T2 ρ', T2.h = H ∧ Gw T1 T2 ∧ Fr X.K T2 σ ρ' ∧ inv (ds.drop i) ρ', ⟨ds.length, by simp, Nat.zero_le _, T1, ρ, rfl, Gw.refl g1.ok, F1, h0⟩, ?_⟩
    rintro i mm σ2 H2 ⟨rfl, hle, T2, ρ', rfl, gw, F2, hv⟩
    obtain ⟨w1, w2⟩ := W T2 i gw.xi gw.xn gw.ok
    cases e : ds[i]? with
    | none =>
      refine .inl ⟨w2 e, ?_⟩
      rw [List.drop_eq_nil_of_le (List.getElem?_eq_none_iff.mp e)] at hv
      exact m.nx ρ' σ2 T2 (g1.w.trans gw) F2 (hd ρ' hv)
    | some d =>
      obtain ⟨go, yld⟩ := w1 d e
      have hlt := (List.getElem?_eq_some_iff.mp e).1
      rw [drop_cons e] at hv
      obtain ⟨ρ2, hg, hb⟩ := hs d _ ρ' hv
      refine .inr ⟨go, fun σ3 H3 => ∃ T3 ρ3, T3.h = H3 ∧ Gw T1 T3 ∧ Fr X.K T3 σ3 ρ3 ∧ inv (ds.drop (i + 1)) ρ3, fun σ3 H3 ⟨T3, ρ3, e3, g3, F3, v3⟩ => ⟨ds.length - (i + 1), by omega, rfl, by omega, T3, ρ3, e3, g3, F3, v3⟩, fun x H' y => ?_⟩
      obtain ⟨T3, rfl, g3, r3⟩ := yld x H' y
      refine hg T3 σ2 x _ (F2.grow g3) r3 fun σ4 F4 => ?_
      have gg := gw.trans g3.w
      have g0 := g1.w.trans gg
      exact hb T3 σ4 _ F4 ⟨fun ρ5 σ5 T5 g5 F5 v5 => ⟨T5, ρ5, rfl, gg.trans g5, F5, v5⟩, fun d v T5 g5 => m.rt d v T5 (g0.trans g5), fun ρ5 σ5 T5 g5 F5 v5 => m.nx ρ5 σ5 T5 (g0.trans g5) F5 v5, fun ρ5 σ5 T5 g5 F5 v5 => ⟨T5, ρ5, rfl, gg.trans g5, F5, v5⟩, fun _ _ _ _ z => z.elim, fun _ _ _ _ _ _ _ z => z.elim⟩
/-- .. over ints -/
theorem js_forI {tg iter : Expr} {body : List Stmt} (inv : List Int → PEnv → Prop) (hi : JI X tg iter l ρ (ns.map D.int)) (h0 : inv ns ρ)
    (hs : ∀ n rest ρ', inv (n :: rest) ρ' → ∃ ρ2, JG X tg l (.int n) ρ' ρ2 ∧ JSs X body { nx := inv rest, rt := P.rt, bk := P.nx, ct := inv rest } ρ2) (hd : ∀ ρ', inv [] ρ' → P.nx ρ')
    (hp : PassesOwn (model X.prog X.w) X.A X.env X.xe := by exact PassesOwn.never) (hc : X.calm = true := by rfl) (hf : ∀ x, foldedSetIterable iter X.env x = pure x := by exact fs_ns rfl) : JS X (.For tg iter body [] pos) P ρ :=
  js_for (fun ds ρ' => ∃ ns : List Int, ds = ns.map D.int ∧ inv ns ρ') hi ⟨ns, rfl, h0⟩ (fun d rest ρ' ⟨ns', e, v⟩ => by
    cases ns' with
    | nil => cases e
    | cons n r =>
      rw [List.map_cons] at e
      cases e
      obtain ⟨ρ2, h1, h2⟩ := hs n r ρ' v
      exact ⟨ρ2, h1, h2.imp (fun ρ3 q => ⟨r, rfl, q⟩) (fun _ q => q) (fun _ q => q) (fun ρ3 q => ⟨r, rfl, q⟩) (fun _ q => q) (fun _ _ q => q)⟩) (fun ρ' ⟨ns', e, v⟩ => by
    cases ns' with
    | nil => exact hd ρ' v
    | cons n r => cases e) hp hc hf
theorem js_while {body : List Stmt} (inv : PEnv → Prop) (μ : PEnv → Nat) (h0 : inv ρ)
    (hs : ∀ ρ', inv ρ' → ∃ v, JT X c ρ' v ∧ (v = true → JSs X body { nx := fun ρ2 => inv ρ2 ∧ μ ρ2 < μ ρ', rt := P.rt, bk := P.nx, ct := fun ρ2 => inv ρ2 ∧ μ ρ2 < μ ρ' } ρ') ∧ (v = false → P.nx ρ'))
    (hp : PassesOwn (model X.prog X.w) X.A X.env X.xe := by exact PassesOwn.never) : JS X (.While c body [] pos) P ρ :=
  JS.of (ps_while hp pt_w pss_w) fun T σ D F m => by
    refine ⟨fun mm σ H => ∃ T2 ρ', mm = μ ρ' ∧ T2.h = H ∧ Gw T T2 ∧ Fr X.K T2 σ ρ' ∧ inv ρ', ⟨_, T, ρ, rfl, rfl, Gw.refl F.ok, F, h0⟩, ?_⟩
    rintro mm σ2 H2 ⟨T2, ρ', rfl, rfl, gw, F2, hv⟩
    obtain ⟨v, ht, hb, he⟩ := hs ρ' hv
    refine ht T2 σ2 _ F2 fun T3 g3 => ?_
    have g := gw.trans g3.w
    cases v with
    | false => exact iteF (m.nx ρ' σ2 T3 g (F2.grow g3) (he rfl))
    | true =>
      refine iteT ⟨fun σ' H' => ∃ T4 ρ4, T4.h = H' ∧ Gw T T4 ∧ Fr X.K T4 σ' ρ4 ∧ inv ρ4 ∧ μ ρ4 < μ ρ', fun σ' H' ⟨T4, ρ4, e4, g4, F4, v4, l4⟩ => ⟨_, l4, T4, ρ4, rfl, e4, g4, F4, v4⟩, ?_⟩
      exact hb rfl T3 σ2 _ (F2.grow g3) ⟨fun ρ5 σ5 T5 g5 F5 v5 => ⟨T5, ρ5, rfl, g.trans g5, F5, v5⟩, fun d v T5 g5 => m.rt d v T5 (g.trans g5), fun ρ5 σ5 T5 g5 F5 v5 => m.nx ρ5 σ5 T5 (g.trans g5) F5 v5, fun ρ5 σ5 T5 g5 F5 v5 => ⟨T5, ρ5, rfl, g.trans g5, F5, v5⟩, fun _ _ _ _ z => z.elim, fun _ _ _ _ _ _ _ z => z.elim⟩

/-! ### comprehensions -/
abbrev Blk (X : Cx) (s : Shared) (H : Hp) (scope : Scope) (C : Addr) (cl : List (Str × Addr)) (fp : List Addr) : Cx := X.blk s H scope (compEnvC scope cl C X.env) fp
/-- .. the names of the block forgotten -/
def wipeE (ρ : PEnv) (n : Nat) : PEnv := ρ.set n none
theorem Fr.wipe {K : PySem.W.Frag} {T : W3} {σ : L2.St} (F : Fr K T σ ρ) (n : Nat) : Fr K T (L2.wipe σ [n]) (wipeE ρ n) := by
  have e : L2.wipe σ [n] = σ.set n none := rfl
  have get : ∀ {j : Nat} {e' : E}, (wipeE ρ n)[j]? = some (some e') → n ≠ j ∧ ρ[j]? = some (some e') := fun {j e'} h => by
    rcases getset h with ⟨_, q⟩ | q
    · cases q
    · exact q
  rw [e]
  refine ⟨F.ok, by rw [wipeE, List.length_set, List.length_set, F.len], fun j e' h => ?_, fun j k e' e2 a h1 h2 o1 o2 s1 s2 => ?_, fun j k e' e2 a h1 h2 => F.sepT j k e' e2 a (get h1).2 (get h2).2, fun j k e' e2 a h1 h2 m1 o2 s2 => ?_⟩
  · obtain ⟨h1, h2⟩ := get h
    obtain ⟨v, q1, q2⟩ := F.val j e' h2
    exact ⟨v, by rw [List.getElem?_set_ne h1]; exact q1, q2⟩
  · obtain ⟨n1, h1⟩ := get h1
    obtain ⟨n2, h2⟩ := get h2
    rw [List.getElem?_set_ne n1] at s1
    rw [List.getElem?_set_ne n2] at s2
    exact F.sep j k e' e2 a h1 h2 o1 o2 s1 s2
  · obtain ⟨n2, h2⟩ := get h2
    rw [List.getElem?_set_ne n2] at s2
    exact F.sepO j k e' e2 a (get h1).2 h2 m1 o2 s2
end
end Lf

set_option Elab.async false
set_option linter.all false
set_option maxRecDepth 100000
set_option maxHeartbeats 2000000
set_option autoImplicit false
namespace Lf
open PySem L2
section
variable {X : Cx} {e a b c : Expr} {es : List Expr} {ρ ρ1 : PEnv} {d d1 d2 d3 : D} {l la lb lc : Lv} {pos p p2 : Pos} {i j k : Int} {ns ms : List Int} {ds fs : List D} {kt : Nat} {x y z : Str} {st : Stmt} {sts : List Stmt} {P : PEnds}
/-! ### comprehensions -/
def wTs (X : Cx) (ifs : List Expr) : TT := fun σ H Q => ∀ pins s, Inv X pins σ H s →
    wpAny (model X.prog X.w) X.A (forIn ifs true fun c r => if r = true then do let ok ← isTrue c X.env (eval c X.env); pure (ForInStep.yield ok) else pure (ForInStep.yield r)) (TP X pins σ Q) X.xe s
theorem pts_w {ifs : List Expr} : PTs X ifs (wTs X ifs) := ⟨fun pins s σ H Q I h => h pins s I⟩
def JTs (X : Cx) (ifs : List Expr) (ρ : PEnv) (v : Bool) : Prop :=
  ∀ (T : W3) (σ : L2.St) (Q : Bool → Hp → Prop), Fr X.K T σ ρ → (∀ T', Grow T T' → Q v T'.h) → wTs X ifs σ T.h Q
theorem jts_nil : JTs X [] ρ true := fun T σ Q F q pins s I => pts_nil.run pins s σ T.h Q I (q T (Grow.refl F.ok))
theorem jts_one {v : Bool} (h : JT X c ρ v) : JTs X [c] ρ v := fun T σ Q F q pins s I => (pts_one pt_w).run pins s σ T.h Q I (h T σ Q F q)
variable {scope : Scope} {elt tg iter : Expr} {ifs : List Expr}
/-- an item is bound to the target in a block: the slot's value alone is new -/
def JGb (X : Cx) (tg : Expr) (l : Lv) (d : D) (own : List Nat) (ρ ρ' : PEnv) : Prop :=
  ∀ (T : W3) (σ : L2.St) (v : V) (Q : L2.St → Hp → Prop), Fr X.K T σ ρ → Rp X.K (T.at l) v d → (∀ σ', L2.wipe σ' own = L2.wipe σ own → Fr X.K T σ' ρ' → Q σ' T.h) → wG X tg v σ T.h Q
def wipeL (ρ : PEnv) : List Nat → PEnv
  | [] => ρ
  | n :: r => wipeE (wipeL ρ r) n
theorem Fr.wipeL {K : PySem.W.Frag} {T : W3} {σ : L2.St} (F : Fr K T σ ρ) : ∀ (own : List Nat), Fr K T (L2.wipe σ own) (Lf.wipeL ρ own)
  | [] => F
  | n :: r => (Fr.wipeL F r).wipe n
/-- the reading of a comprehension -/
theorem lc_run {own : List Nat} {tt : TT} {te : TE} {g : TG} {wi : TI} {l' : Lv} {Tst : D → Bool} {f : D → D} {ρd : D → PEnv} (hl' : Lv.le l' .imm = true)
    (hi : ∀ (T : W3) (σ : L2.St) (R : It → Hp → Prop), Fr X.K T σ ρ → (∀ J T', Grow T T' → Walks X.K T' J l ds → R J T'.h) → wi σ T.h R)
    (hg : ∀ d, d ∈ ds → ∀ (T : W3) (σ : L2.St) (v : V) (Q : L2.St → Hp → Prop), Fr X.K T σ (wipeL ρ own) → Rp X.K (T.at l) v d → (∀ σ', L2.wipe σ' own = L2.wipe σ own → Fr X.K T σ' (ρd d) → Q σ' T.h) → g v σ T.h Q)
    (ht : ∀ d, d ∈ ds → ∀ (T : W3) (σ : L2.St) (Q : Bool → Hp → Prop), Fr X.K T σ (ρd d) → (∀ T', Grow T T' → Q (Tst d) T'.h) → tt σ T.h Q)
    (he : ∀ d, d ∈ ds → Tst d = true → ∀ (T : W3) (σ : L2.St) (Q : VK), Fr X.K T σ (ρd d) → (∀ v T', Grow T T' → Rp X.K (T'.at l') v (f d) → Q v T'.h) → te σ T.h Q)
    (hz : ds.length ≤ 100000) (T : W3) (σ : L2.St) (Q : VK) (F : Fr X.K T σ ρ)
    (q : ∀ a vs T', Grow T T' → T.h a = none → T'.i a = none → T'.h a = some (.lst vs) → RpAll X.K (T'.at l') vs ((ds.filter Tst).map f) → Q (.ref a) T'.h) : tLc wi g tt te own σ T.h Q := by
  refine hi T σ _ F fun J T1 g1 W => ?_
  intro D0 hD
  have F1 := (F.grow g1)
  have hww : L2.wipe (L2.wipe σ own) own = L2.wipe σ own := by
    have key : ∀ (own : List Nat) (σ : L2.St) (n : Nat), L2.wipe (σ.set n none) own = (L2.wipe σ own).set n none := by
      intro own
      induction own with
      | nil => intro σ n; rfl
      | cons v r ih =>
        intro σ n
        show (L2.wipe (σ.set n none) r).set v none = ((L2.wipe σ r).set v none).set n none
        rw [ih]
        by_cases e : n = v
        · subst e; rfl
        · rw [List.set_comm _ _ e]
    have key2 : ∀ (own : List Nat) (σ : L2.St), L2.wipe (L2.wipe σ own) own = L2.wipe σ own := by
      intro own
      induction own with
      | nil => intro σ; rfl
      | cons v r ih =>
        intro σ
        show (L2.wipe ((L2.wipe σ r).set v none) r).set v none = (L2.wipe σ r).set v none
        rw [key, ih, List.set_set]
    exact key2 own σ
  refine ⟨fun i m H => m = ds.length - i ∧ i ≤ ds.length ∧ ∃ T2 vs, T2.h = H ∧ Gs T1 T2 ∧ Same T1.h T2.h ∧ Fr X.K T2 σ ρ ∧ T2.i D0 = none ∧ T2.h D0 = some (.lst vs) ∧ RpAll X.K (T2.at l') vs (((ds.take i).filter Tst).map f),
    ⟨ds.length, by simp, Nat.zero_le _, T1.put D0 (.lst []), [], rfl, (Grow.put g1.ok hD).s, same_new hD, F1.put (g1.ok.i_none hD) (F1.fresh hD), g1.ok.i_none hD, upd_same, .nil⟩, ?_⟩
  rintro i m H2 ⟨rfl, hle, T2, vs, rfl, gw, sh, F2, hDi, hDh, rr⟩
  obtain ⟨w1, w2⟩ := W T2 i gw.xi gw.xn gw.ok
  have hD2 : T.h D0 = none := Same.free g1.ex hD
  cases e : ds[i]? with
  | none =>
    refine .inl ⟨w2 e, ?_⟩
    rw [List.take_of_length_le (List.getElem?_eq_none_iff.mp e)] at rr
    exact q D0 vs T2 ⟨gw.ok, g1.ex.trans sh, g1.xi.trans gw.xi, g1.xn.trans gw.xn, fun a h1 h2 => gw.fi a (g1.fi a h1 h2) (Same.some g1.ex h2), fun a h1 h2 => gw.fn a (g1.fn a h1 h2) (Same.some g1.ex h2)⟩ hD2 hDi hDh rr
  | some d =>
    obtain ⟨go, yld⟩ := w1 d e
    have hlt := (List.getElem?_eq_some_iff.mp e).1
    have hmem : d ∈ ds := List.mem_of_getElem? e
    have htake : ds.take (i + 1) = ds.take i ++ [d] := by rw [List.take_add_one, e]; rfl
    refine .inr ⟨go, fun H3 => ∃ T3 vs3, T3.h = H3 ∧ Gs T1 T3 ∧ Same T1.h T3.h ∧ Fr X.K T3 σ ρ ∧ T3.i D0 = none ∧ T3.h D0 = some (.lst vs3) ∧ RpAll X.K (T3.at l') vs3 (((ds.take (i + 1)).filter Tst).map f),
      fun H3 ⟨T3, vs3, h⟩ => ⟨ds.length - (i + 1), by omega, rfl, by omega, T3, vs3, h⟩, fun x H' yv => ?_⟩
    obtain ⟨T3, rfl, g3, r3⟩ := yld x H' yv
    have F3 := F2.grow g3
    refine hg d hmem T3 (L2.wipe σ own) x _ (F3.wipeL own) r3 fun σ4 hw F4 => ⟨by rw [hw, hww], ?_⟩
    refine ht d hmem T3 σ4 _ F4 fun T5 g5 => ?_
    have g35 := g3.trans g5
    cases ev : Tst d with
    | false =>
      refine iteF ⟨T5, vs, rfl, gw.trans g35.s, sh.trans g35.ex, F2.grow g35, g35.fi D0 hDi (by rw [hDh]; intro z; cases z), g35.ex _ _ hDh, ?_⟩
      rw [htake, List.filter_append, List.filter_cons_of_neg (by rw [ev]; exact Bool.false_ne_true), List.filter_nil, List.append_nil]
      exact rr.mono (g35.at l')
    | true =>
      refine iteT (he d hmem ev T5 σ4 _ (F4.grow g5) fun v T6 g6 r6 => ?_)
      have g36 := g35.trans g6
      have hDi6 := g36.fi D0 hDi (by rw [hDh]; intro z; cases z)
      have hDh6 := g36.ex _ _ hDh
      have nz : (((ds.take i).filter Tst).map f).length ≤ i := by
        rw [List.length_map]
        exact Nat.le_trans (List.length_filter_le _ _) (by rw [List.length_take]; omega)
      refine ⟨vs, hDh6, by rw [rr.length]; exact small_lt (by omega), T6.put D0 (.lst (vs ++ [v])), vs ++ [v], rfl, (gw.trans g36.s).trans (Gs.put g36.ok hDi6), ?_, ?_, hDi6, upd_same, ?_⟩
      · exact same_into (sh.trans g36.ex) hD
      · refine (F2.grow g36).put hDi6 (F1.fresh hD)
      · rw [htake, List.filter_append, List.filter_cons_of_pos ev, List.filter_nil, List.map_append]
        have z := (rr.mono (g36.at l')).append (.cons r6 .nil)
        cases l' with
        | full => cases hl'
        | imm => exact z
        | frs => exact z
/-- the block's names: one, bound to the item -/
theorem jgb_name {Y : Cx} (n : Nat) (hN : Y.N.Nodup) (hl : l ≠ .full := by decide) (hi : Y.N[n]? = some x := by rfl) (hx : Loc Y.env.scope x := by first | exact Or.inl rfl | exact Or.inr rfl) (hf : Y.fn x = true ∨ Y.env.scope.names.lookup x = some .local := by first | exact Or.inr rfl | exact Or.inl rfl) :
    JGb Y (.Name x p) l d [n] ρ (ρ.set n (some (.v l d))) := fun T σ v Q F r q pins s u I rv => (pg_name (i := n) hN hi hx hf).run pins s σ T.h v u Q I rv (q _ (by
      show (σ.set n (some v)).set n none = σ.set n none
      rw [List.set_set]) (F.set hl r))
theorem jgb_pair {Y : Cx} (n m : Nat) {px py : Pos} {k1 : Nat} (hN : Y.N.Nodup) (hl : l ≠ .full := by decide) (hi : Y.N[n]? = some x := by rfl) (hj : Y.N[m]? = some y := by rfl) (hx : Loc Y.env.scope x := by first | exact Or.inl rfl | exact Or.inr rfl) (hy : Loc Y.env.scope y := by first | exact Or.inl rfl | exact Or.inr rfl)
    (hf : Y.fn x = true ∨ Y.env.scope.names.lookup x = some .local := by first | exact Or.inr rfl | exact Or.inl rfl) (hf2 : Y.fn y = true ∨ Y.env.scope.names.lookup y = some .local := by first | exact Or.inr rfl | exact Or.inl rfl) (hc : Y.calm = true := by rfl)
    (hs1 : (assignEach [.Name x px, .Name y py] Y.env).map (·.2) = assign (.Name x px) Y.env :: (assignEach [.Name y py] Y.env).map (·.2) := by rfl) (hs2 : (assignEach [.Name y py] Y.env).map (·.2) = assign (.Name y py) Y.env :: (assignEach [] Y.env).map (·.2) := by rfl)
    (hn : (assignEach [.Name x px, .Name y py] Y.env).length = 2 := by rfl) (hst : (assignEach [.Name x px, .Name y py] Y.env).findIdx? (·.1) = none := by rfl) :
    JGb Y (.Tuple [.Name x px, .Name y py] k1 p) l (.tup [d1, d2]) [n, m] ρ ((ρ.set n (some (.v l d1))).set m (some (.v l d2))) := fun T σ v Q F r q pins s u I rv => by
  cases r with
  | tup h rr =>
    have h := SqT.of (K := Y.K) h
    cases rr with
    | cons r1 rr =>
      cases rr with
      | cons r2 rr =>
        cases rr
        refine (pg_tup hc (pgs_cons (pg_name (i := n) hN hi hx hf) (pgs_cons (pg_name (i := m) hN hj hy hf2) pgs_nil hs2) hs1) hn hst).run pins s σ T.h _ u Q I rv
          ⟨_, _, rfl, seqT F.ok.full h, rfl, _, _, rfl, _, _, rfl, rfl, q _ ?_ ((F.set hl r1).set hl r2)⟩
        show (((σ.set n _).set m _).set m none).set n none = (σ.set m none).set n none
        rw [List.set_set]
        by_cases e : n = m
        · subst e; simp only [List.set_set]
        · rw [List.set_comm _ _ e, List.set_set]
theorem jo_lc {own : List (Str × Nat)} {l' : Lv} {Tst : D → Bool} {f : D → D} {ρd : D → PEnv} (hi : JI X tg iter l ρ ds)
    (hg : ∀ d, d ∈ ds → ∀ s H C cl fp, JGb (Blk X s H scope C cl fp) tg l d (own.map (·.2)) (wipeL ρ (own.map (·.2))) (ρd d))
    (ht : ∀ d, d ∈ ds → ∀ s H C cl fp, JTs (Blk X s H scope C cl fp) ifs (ρd d) (Tst d))
    (he : ∀ d, d ∈ ds → Tst d = true → ∀ s H C cl fp, JE (Blk X s H scope C cl fp) l' elt (ρd d) (f d)) (hN : X.N.Nodup) (ok : BlkOk X.N X.env.scope scope own) (hz : ds.length ≤ 100000) (hl' : Lv.le l' .imm = true := by rfl) (hc : X.calm = true := by rfl)
    (hs : ∀ x, foldedSetIterable iter X.env x = pure x := by exact fs_ns rfl) : JO X l' (.ListComp elt [⟨tg, iter, ifs, 0⟩] scope pos) ρ ((ds.filter Tst).map f) :=
  JO.of (pe_lc (own := own) (g := fun v σ H Q => ∀ s H0 C cl fp, wG (Blk X s H0 scope C cl fp) tg v σ H Q) (tt := fun σ H Q => ∀ s H0 C cl fp, wTs (Blk X s H0 scope C cl fp) ifs σ H Q) (te := fun σ H Q => ∀ s H0 C cl fp, wE (Blk X s H0 scope C cl fp) elt σ H Q) hc hN pi_w ok
      (fun s H C cl fp => ⟨fun pins s' σ H' v u Q I r h => h s H C cl fp pins s' u I r⟩) (fun s H C cl fp => ⟨fun pins s' σ H' Q I h => h s H C cl fp pins s' I⟩) (fun s H C cl fp => ⟨fun pins s' σ H' Q I h => h s H C cl fp pins s' I⟩) hs)
    (lc_run hl' hi (fun d hd T σ v Q F r q s H C cl fp => hg d hd s H C cl fp T σ v Q F r q) (fun d hd T σ Q F q s H C cl fp => ht d hd s H C cl fp T σ Q F q) (fun d hd ht' T σ Q F q s H C cl fp => he d hd ht' s H C cl fp T σ Q F q) hz)
theorem joi_of {f : D → Int} (h : JO X l e ρ (ds.map fun d => .int (f d))) : JOI X e ρ (ds.map f) := fun T σ Q F q => h T σ Q F fun a vs T' g h0 hi hh r => by
  have e : vs = (ds.map f).map V.int := by
    rw [show (ds.map fun d => D.int (f d)) = (ds.map f).map D.int by rw [List.map_map]; rfl] at r
    exact r.of_il
  subst e
  exact q a T' g h0 hi hh
/-- over ints, one name; the items ints -/
theorem joi_lcI {x : Str} {n : Nat} {Tst : Int → Bool} {f : Int → Int} (hi : JI X tg iter .frs ρ (ns.map D.int))
    (hg : ∀ k s H C cl fp, JGb (Blk X s H scope C cl fp) tg .frs (.int k) [n] (wipeE ρ n) ((wipeE ρ n).set n (some (.v .frs (.int k)))))
    (ht : ∀ k, k ∈ ns → ∀ s H C cl fp, JTs (Blk X s H scope C cl fp) ifs ((wipeE ρ n).set n (some (.v .frs (.int k)))) (Tst k))
    (he : ∀ k, k ∈ ns → Tst k = true → ∀ s H C cl fp, JE (Blk X s H scope C cl fp) .frs elt ((wipeE ρ n).set n (some (.v .frs (.int k)))) (.int (f k))) (hN : X.N.Nodup) (ok : BlkOk X.N X.env.scope scope [(x, n)]) (hz : ns.length ≤ 100000) (hc : X.calm = true := by rfl)
    (hs : ∀ x, foldedSetIterable iter X.env x = pure x := by exact fs_ns rfl) : JOI X (.ListComp elt [⟨tg, iter, ifs, 0⟩] scope pos) ρ ((ns.filter Tst).map f) := by
  have unI : ∀ d, d ∈ ns.map D.int → ∃ k, k ∈ ns ∧ d = .int k := fun d h => by
    obtain ⟨k, hk, e⟩ := List.mem_map.mp h
    exact ⟨k, hk, e.symm⟩
  let toI : D → Int := fun d => match d with | .int k => k | _ => 0
  have z := jo_lc (pos := pos) (own := [(x, n)]) (l' := .frs) (Tst := fun d => Tst (toI d)) (f := fun d => .int (f (toI d))) (ρd := fun d => (wipeE ρ n).set n (some (.v .frs d))) (elt := elt) (ifs := ifs) (scope := scope) hi
    (fun d hd s H C cl fp => by obtain ⟨k, hk, rfl⟩ := unI d hd; exact hg k s H C cl fp)
    (fun d hd s H C cl fp => by obtain ⟨k, hk, rfl⟩ := unI d hd; exact ht k hk s H C cl fp)
    (fun d hd e s H C cl fp => by obtain ⟨k, hk, rfl⟩ := unI d hd; exact he k hk e s H C cl fp) hN ok (by rw [List.length_map]; exact hz) rfl hc hs
  have e : (((ns.map D.int).filter fun d => Tst (toI d)).map fun d => f (toI d)) = (ns.filter Tst).map f := by
    rw [List.filter_map, List.map_map]
    rfl
  rw [← e]
  exact joi_of z
/-- .. the items of any kind -/
theorem jo_lcI {x : Str} {n : Nat} {l' : Lv} {Tst : Int → Bool} {f : Int → D} (hi : JI X tg iter .frs ρ (ns.map D.int))
    (hg : ∀ k s H C cl fp, JGb (Blk X s H scope C cl fp) tg .frs (.int k) [n] (wipeE ρ n) ((wipeE ρ n).set n (some (.v .frs (.int k)))))
    (ht : ∀ k, k ∈ ns → ∀ s H C cl fp, JTs (Blk X s H scope C cl fp) ifs ((wipeE ρ n).set n (some (.v .frs (.int k)))) (Tst k))
    (he : ∀ k, k ∈ ns → Tst k = true → ∀ s H C cl fp, JE (Blk X s H scope C cl fp) l' elt ((wipeE ρ n).set n (some (.v .frs (.int k)))) (f k)) (hN : X.N.Nodup) (ok : BlkOk X.N X.env.scope scope [(x, n)]) (hz : ns.length ≤ 100000) (hl' : Lv.le l' .imm = true := by rfl) (hc : X.calm = true := by rfl)
    (hs : ∀ x, foldedSetIterable iter X.env x = pure x := by exact fs_ns rfl) : JO X l' (.ListComp elt [⟨tg, iter, ifs, 0⟩] scope pos) ρ ((ns.filter Tst).map f) := by
  have unI : ∀ d, d ∈ ns.map D.int → ∃ k, k ∈ ns ∧ d = .int k := fun d h => by
    obtain ⟨k, hk, e⟩ := List.mem_map.mp h
    exact ⟨k, hk, e.symm⟩
  let toI : D → Int := fun d => match d with | .int k => k | _ => 0
  have z := jo_lc (pos := pos) (own := [(x, n)]) (l' := l') (Tst := fun d => Tst (toI d)) (f := fun d => f (toI d)) (ρd := fun d => (wipeE ρ n).set n (some (.v .frs d))) (elt := elt) (ifs := ifs) (scope := scope) hi
    (fun d hd s H C cl fp => by obtain ⟨k, hk, rfl⟩ := unI d hd; exact hg k s H C cl fp)
    (fun d hd s H C cl fp => by obtain ⟨k, hk, rfl⟩ := unI d hd; exact ht k hk s H C cl fp)
    (fun d hd e s H C cl fp => by obtain ⟨k, hk, rfl⟩ := unI d hd; exact he k hk e s H C cl fp) hN ok (by rw [List.length_map]; exact hz) hl' hc hs
  have e : (((ns.map D.int).filter fun d => Tst (toI d)).map fun d => f (toI d)) = (ns.filter Tst).map f := by
    rw [List.filter_map, List.map_map]
    rfl
  rw [← e]
  exact z
/-- y = [..] -/
theorem js_setLcAny (m : Nat) {own : List (Str × Nat)} {l' : Lv} {Tst : D → Bool} {f : D → D} {ρd : D → PEnv} {py : Pos} {spos : Pos} (hi : JI X tg iter l ρ ds)
    (hg : ∀ d, d ∈ ds → ∀ s H C cl fp, JGb (Blk X s H scope C cl fp) tg l d (own.map (·.2)) (wipeL ρ (own.map (·.2))) (ρd d))
    (ht : ∀ d, d ∈ ds → ∀ s H C cl fp, JTs (Blk X s H scope C cl fp) ifs (ρd d) (Tst d))
    (he : ∀ d, d ∈ ds → Tst d = true → ∀ s H C cl fp, JE (Blk X s H scope C cl fp) l' elt (ρd d) (f d)) (hN : X.N.Nodup) (ok : BlkOk X.N X.env.scope scope own) (hz : ds.length ≤ 100000)
    (hdone : ∀ (T : W3) (σ : L2.St) a vs (T0 : W3), Fr X.K T0 σ ρ → Grow T0 T → T0.h a = none → T.i a = none → T.h a = some (.lst vs) → RpAll X.K (T.at l') vs ((ds.filter Tst).map f) → ∃ T' ρ', T'.h = T.h ∧ Gw T0 T' ∧ Fr X.K T' (σ.set m (some (.ref a))) ρ' ∧ P.nx ρ')
    (hy : X.N[m]? = some y := by rfl) (hyl : X.env.scope.names.lookup y = some .local := by rfl) (hsw : swapsWith (.ListComp elt [⟨tg, iter, ifs, 0⟩] scope pos) (some (.Name y py)) spos.line X.env = pure true := by exact sw_true rfl rfl rfl (by decide +kernel))
    (hl' : Lv.le l' .imm = true := by rfl) (hc : X.calm = true := by rfl) (hs : ∀ x, foldedSetIterable iter X.env x = pure x := by exact fs_ns rfl) : JS X (.Assign [.Name y py] (.ListComp elt [⟨tg, iter, ifs, 0⟩] scope pos) spos) P ρ :=
  JS.of (ps_setLc (i := m) (own := own) (g := fun v σ H Q => ∀ s H0 C cl fp, wG (Blk X s H0 scope C cl fp) tg v σ H Q) (tt := fun σ H Q => ∀ s H0 C cl fp, wTs (Blk X s H0 scope C cl fp) ifs σ H Q) (te := fun σ H Q => ∀ s H0 C cl fp, wE (Blk X s H0 scope C cl fp) elt σ H Q) hc hN hy hyl hsw pi_w ok
      (fun s H C cl fp => ⟨fun pins s' σ H' v u Q I r h => h s H C cl fp pins s' u I r⟩) (fun s H C cl fp => ⟨fun pins s' σ H' Q I h => h s H C cl fp pins s' I⟩) (fun s H C cl fp => ⟨fun pins s' σ H' Q I h => h s H C cl fp pins s' I⟩) hs)
    fun T σ D F mm => lc_run (Q := fun x H1 => gName m x σ H1 D.nx) hl' hi (fun d hd T σ v Q F r q s H C cl fp => hg d hd s H C cl fp T σ v Q F r q) (fun d hd T σ Q F q s H C cl fp => ht d hd s H C cl fp T σ Q F q) (fun d hd ht' T σ Q F q s H C cl fp => he d hd ht' s H C cl fp T σ Q F q) hz T σ F
      fun a vs T' g h0 hi' hh r => by
        obtain ⟨T2, ρ', e, g2, F2, n2⟩ := hdone T' σ a vs T F g h0 hi' hh r
        show D.nx (σ.set m (some (.ref a))) T'.h
        rw [← e]
        exact mm.nx ρ' _ T2 g2 F2 n2
end
end Lf

set_option Elab.async false
set_option linter.all false
set_option maxRecDepth 100000
set_option maxHeartbeats 2000000
set_option autoImplicit false
/-- the items that a slice with a step picks -/
def Lf.stepL {α : Type} (xs : List α) (lo hi st : Option Int) : List α :=
  (PySem.sliceRange (PySem.sliceBounds lo hi st xs.length).1 (PySem.sliceBounds lo hi st xs.length).2.1 (PySem.sliceBounds lo hi st xs.length).2.2).filterMap (xs[·]?)
theorem Lf.stepL_map {α β : Type} (f : α → β) (xs : List α) (lo hi st : Option Int) : Lf.stepL (xs.map f) lo hi st = (Lf.stepL xs lo hi st).map f := by
  unfold Lf.stepL
  rw [List.length_map, List.map_filterMap]
  congr 1
  funext i
  rw [List.getElem?_map]
namespace L2
open PySem PySem.Spec PyProof.Rows
theorem Vals.pick {xs : List V} {us : List Value} (r : Vals xs us) : ∀ ix : List Nat, Vals (ix.filterMap (xs[·]?)) (ix.filterMap (us[·]?))
  | [] => .nil
  | i :: t => by
    have ih := Vals.pick r t
    cases e : xs[i]? with
    | none =>
      rw [List.filterMap_cons_none e, List.filterMap_cons_none (r.none_of e)]
      exact ih
    | some x =>
      obtain ⟨u, e2, rx⟩ := r.get e
      rw [List.filterMap_cons_some e, List.filterMap_cons_some e2]
      exact .cons rx ih
def tStepL (K : PySem.W.Frag) (te : TE) (lo : Option Int) (st : Int) : TE := fun σ H Q => te σ H fun x H1 => ∃ a xs, x = .ref a ∧ SqL K H1 a xs ∧ (Lf.stepL xs lo none (some st)).length ≤ sizeLine ∧ ∀ p, H1 p = none → Q (.ref p) (upd H1 p (.lst (Lf.stepL xs lo none (some st))))
section
variable {X : Cx}
theorem pe_stepL {e : Expr} {te : TE} {lo : Option Expr} {ol : Option Int} {k : Nat} {st : Int} {p1 p3 pos : Pos} (he : PE X e te) (hlo : PO X lo fun _ H Q => Q ol H) (h0 : st ≠ 0) : PE X (.Subscript e (.Slice lo none (some (.Constant (.int st) k p1)) p3) pos) (tStepL X.K te ol st) := by
  refine ⟨fun pins s σ H Q I h => ?_⟩
  refine Subscript_ (thn (he.run pins s σ H _ I h) fun v s1 ⟨x, H1, I1, r1, q1⟩ => ?_)
  obtain ⟨a, xs, ex, hx, hzz, q⟩ := q1
  subst ex
  cases r1
  have hst : PO X (some (.Constant (.int st) k p1)) (tPart (tC (.int st))) := po_some pe_int
  refine wpAny_Slice (thn (hlo.run pins s1 σ H1 (fun o H2 => o = ol ∧ H2 = H1) I1 ⟨rfl, rfl⟩) fun vl s2 ⟨l, H2, I2, pl, el, e2⟩ => ?_)
  subst el e2
  refine thn (po_none.run pins s2 σ H2 (fun o H3 => o = none ∧ H3 = H2) I2 ⟨rfl, rfl⟩) fun vu s3 ⟨u, H3, I3, pu, eu, e3⟩ => ?_
  subst eu e3
  refine thn (hst.run pins s3 σ H3 (fun o H4 => o = some st ∧ H4 = H3) I3 ⟨st, rfl, rfl, rfl⟩) fun vs s4 ⟨o, H4, I4, ps, eo, e4⟩ => ?_
  subst eo e4
  have I5 : Inv X pins σ H4 { s4 with heap := s4.heap.push { cls := .type "slice", data := .fields #[vl, vu, vs] } } := I4.kept (t' := s4.toks) fun b ob q => Heap.get?_push_of_some _ q
  obtain ⟨its, r, ht, hz⟩ := I5.list hx
  have hlen := r.length
  show wpAny (model X.prog X.w) X.A (subscriptTail e (.Slice lo none (some (.Constant (.int st) k p1)) p3) (.ref a) (.ref s4.heap.objs.size)) (EP X pins σ Q) X.xe { s4 with heap := s4.heap.push { cls := .type "slice", data := .fields #[vl, vu, vs] } }
  refine tail_any (ops := [.ref a, .ref s4.heap.objs.size]) ht.isList.typeIs (PySem.slot_list_getitem.lookup) ?_ (by with_unfolding_all rfl)
  refine wpAny_getItem_list_slice ht.isList (Heap.IsSliceOf.new _ vl vu vs) pl pu ps (by intro z; exact h0 (Option.some.inj z)) ?_ (by rw [List.size_toArray]; omega)
  have ep : slicePick its.toArray l none (some st) = (Lf.stepL its l none (some st)).toArray := by
    unfold slicePick Lf.stepL
    simp
  rw [ep]
  have rv : Vals (Lf.stepL xs l none (some st)) (Lf.stepL its l none (some st)) := by
    unfold Lf.stepL
    rw [hlen]
    exact r.pick _
  refine ⟨.ref _, _, I5.laid (t' := s4.toks) (o := .lst (Lf.stepL xs l none (some st))) (fun b ob q => Heap.get?_push_of_some _ q) (Nat.le_refl _) ?_, rfl, q _ (I5.hok.fresh (Nat.le_refl _))⟩
  exact ⟨hzz, _, 0, rv, Heap.get?_push_size _ rfl⟩
end
end L2
namespace Lf
open PySem L2
section
variable {X : Cx} {e a b c : Expr} {es : List Expr} {ρ ρ1 : PEnv} {d d1 d2 d3 : D} {l la lb lc : Lv} {pos p p2 : Pos} {i j k : Int} {ns ms : List Int} {ds fs : List D} {kt : Nat} {x y z : Str} {st : Stmt} {sts : List Stmt} {P : PEnds}
theorem stepL_len {α : Type} (xs : List α) (lo : Option Int) {st : Int} (h : 0 < st) : (stepL xs lo none (some st)).length ≤ xs.length := by
  unfold stepL
  refine Nat.le_trans (List.length_filterMap_le _ _) ?_
  refine PySem.sliceRange_length_le _ _ _ _ (fun _ => ?_) (fun z => absurd h z)
  have hs : (some st).getD 1 > 0 := h
  unfold PySem.sliceBounds
  simp only [hs, if_true]
  cases lo with
  | none => simp
  | some i => simp only []; omega
/-- xs[::k], xs[i::k] -/
theorem joi_step {k : Nat} {s : Int} {p1 p3 : Pos} (ha : JE X la a ρ (.il ns)) (hs : 0 < s := by decide) (hz : ns.length ≤ 100000) : JOI X (.Subscript a (.Slice none none (some (.Constant (.int s) k p1)) p3) pos) ρ (stepL ns none none (some s)) :=
  JOI.of (pe_stepL pe_w po_none (by omega)) fun T σ Q F q => ha T σ _ F fun v T1 g1 r1 => by
    have r1' := r1.mono g1.ok.full
    cases r1' with
    | il h1 =>
      have h1 := SqL.of (K := X.K) h1
      refine ⟨_, _, rfl, h1, ?_, fun p hp => ?_⟩
      · rw [stepL_map, List.length_map]
        exact small_of (Nat.le_trans (stepL_len ns none hs) hz)
      · rw [stepL_map]
        exact q p (T1.put p _) (g1.trans (Grow.put g1.ok hp)) (Same.free g1.ex hp) (g1.ok.i_none hp) upd_same
theorem joi_stepF {k k2 : Nat} {s f : Int} {p0 p1 p3 : Pos} (ha : JE X la a ρ (.il ns)) (hs : 0 < s := by decide) (hz : ns.length ≤ 100000) : JOI X (.Subscript a (.Slice (some (.Constant (.int f) k2 p0)) none (some (.Constant (.int s) k p1)) p3) pos) ρ (stepL ns (some f) none (some s)) :=
  JOI.of (pe_stepL (ol := some f) pe_w ⟨fun pins s' σ H Q I h => (po_some pe_int).run pins s' σ H Q I ⟨f, rfl, h⟩⟩ (by omega)) fun T σ Q F q => ha T σ _ F fun v T1 g1 r1 => by
    have r1' := r1.mono g1.ok.full
    cases r1' with
    | il h1 =>
      have h1 := SqL.of (K := X.K) h1
      refine ⟨_, _, rfl, h1, ?_, fun p hp => ?_⟩
      · rw [stepL_map, List.length_map]
        exact small_of (Nat.le_trans (stepL_len ns _ hs) hz)
      · rw [stepL_map]
        exact q p (T1.put p _) (g1.trans (Grow.put g1.ok hp)) (Same.free g1.ex hp) (g1.ok.i_none hp) upd_same

/-! ### a name is bound to a comprehension's list -/
theorem js_lcV (m : Nat) {scope : Scope} {elt tg iter : Expr} {ifs : List Expr} {own : List (Str × Nat)} {l' : Lv} {Tst : D → Bool} {f : D → D} {ρd : D → PEnv} {py : Pos} {spos : Pos} (hi : JI X tg iter l ρ ds)
    (hg : ∀ d, d ∈ ds → ∀ s H C cl fp, JGb (Blk X s H scope C cl fp) tg l d (own.map (·.2)) (wipeL ρ (own.map (·.2))) (ρd d))
    (ht : ∀ d, d ∈ ds → ∀ s H C cl fp, JTs (Blk X s H scope C cl fp) ifs (ρd d) (Tst d))
    (he : ∀ d, d ∈ ds → Tst d = true → ∀ s H C cl fp, JE (Blk X s H scope C cl fp) l' elt (ρd d) (f d)) (h : P.nx (ρ.set m (some (.v l' (.lst ((ds.filter Tst).map f)))))) (hN : X.N.Nodup) (ok : BlkOk X.N X.env.scope scope own) (hz : ds.length ≤ 100000)
    (hy : X.N[m]? = some y := by rfl) (hyl : X.env.scope.names.lookup y = some .local := by rfl) (hsw : swapsWith (.ListComp elt [⟨tg, iter, ifs, 0⟩] scope pos) (some (.Name y py)) spos.line X.env = pure true := by exact sw_true rfl rfl rfl (by decide +kernel))
    (hl' : Lv.le l' .imm = true := by rfl) (hc : X.calm = true := by rfl) (hs : ∀ x, foldedSetIterable iter X.env x = pure x := by exact fs_ns rfl) : JS X (.Assign [.Name y py] (.ListComp elt [⟨tg, iter, ifs, 0⟩] scope pos) spos) P ρ :=
  js_setLcAny m hi hg ht he hN ok hz (fun T σ a vs T0 F g h0 hi hh r => by
    cases l' with
    | full => cases hl'
    | imm =>
      have G := g.fixI (o := .lst vs) h0 hi hh
      exact ⟨T.fixI a (.lst vs), _, rfl, G.w, (F.grow G).set (l := .imm) (by decide) (.lst (show upd T.i a _ a = _ from upd_same) (r.mono (same_new hi))), h⟩
    | frs =>
      have G := g.fix (o := .lst vs) h0 hi hh
      exact ⟨T.fix a (.lst vs), _, rfl, G.w, (F.grow G).set (l := .frs) (by decide) (.lst (show upd T.n a _ a = _ from upd_same) (r.mono (same_new (g.ok.n_none' hi)))), h⟩) hy hyl hsw hl' hc hs
/-- .. of ints -/
theorem js_lcVI (m : Nat) {scope : Scope} {elt tg iter : Expr} {ifs : List Expr} {own : List (Str × Nat)} {Tst : D → Bool} {f : D → Int} {ρd : D → PEnv} {py : Pos} {spos : Pos} (hi : JI X tg iter l ρ ds)
    (hg : ∀ d, d ∈ ds → ∀ s H C cl fp, JGb (Blk X s H scope C cl fp) tg l d (own.map (·.2)) (wipeL ρ (own.map (·.2))) (ρd d))
    (ht : ∀ d, d ∈ ds → ∀ s H C cl fp, JTs (Blk X s H scope C cl fp) ifs (ρd d) (Tst d))
    (he : ∀ d, d ∈ ds → Tst d = true → ∀ s H C cl fp, JE (Blk X s H scope C cl fp) .frs elt (ρd d) (.int (f d))) (h : P.nx (ρ.set m (some (.v .frs (.il ((ds.filter Tst).map f)))))) (hN : X.N.Nodup) (ok : BlkOk X.N X.env.scope scope own) (hz : ds.length ≤ 100000)
    (hy : X.N[m]? = some y := by rfl) (hyl : X.env.scope.names.lookup y = some .local := by rfl) (hsw : swapsWith (.ListComp elt [⟨tg, iter, ifs, 0⟩] scope pos) (some (.Name y py)) spos.line X.env = pure true := by exact sw_true rfl rfl rfl (by decide +kernel))
    (hc : X.calm = true := by rfl) (hs : ∀ x, foldedSetIterable iter X.env x = pure x := by exact fs_ns rfl) : JS X (.Assign [.Name y py] (.ListComp elt [⟨tg, iter, ifs, 0⟩] scope pos) spos) P ρ :=
  js_setLcAny m (l' := .frs) (f := fun d => .int (f d)) hi hg ht he hN ok hz (fun T σ a vs T0 F g h0 hi hh r => by
    have G := g.fix (o := .lst vs) h0 hi hh
    have e : vs = (((ds.filter Tst).map f).map V.int) := by
      rw [show ((ds.filter Tst).map fun d => D.int (f d)) = ((ds.filter Tst).map f).map D.int by rw [List.map_map]; rfl] at r
      exact r.of_il
    refine ⟨T.fix a (.lst vs), _, rfl, G.w, (F.grow G).set (l := .frs) (by decide) (.il (show upd T.n a _ a = _ from ?_)), h⟩
    rw [upd_same, e]) hy hyl hsw rfl hc hs
/-- .. as an own list of ints -/
theorem js_lcOI (m : Nat) {scope : Scope} {elt tg iter : Expr} {ifs : List Expr} {own : List (Str × Nat)} {Tst : D → Bool} {f : D → Int} {ρd : D → PEnv} {py : Pos} {spos : Pos} (hi : JI X tg iter l ρ ds)
    (hg : ∀ d, d ∈ ds → ∀ s H C cl fp, JGb (Blk X s H scope C cl fp) tg l d (own.map (·.2)) (wipeL ρ (own.map (·.2))) (ρd d))
    (ht : ∀ d, d ∈ ds → ∀ s H C cl fp, JTs (Blk X s H scope C cl fp) ifs (ρd d) (Tst d))
    (he : ∀ d, d ∈ ds → Tst d = true → ∀ s H C cl fp, JE (Blk X s H scope C cl fp) .frs elt (ρd d) (.int (f d))) (h : P.nx (ρ.set m (some (.ownI ((ds.filter Tst).map f))))) (hN : X.N.Nodup) (ok : BlkOk X.N X.env.scope scope own) (hz : ds.length ≤ 100000)
    (hy : X.N[m]? = some y := by rfl) (hyl : X.env.scope.names.lookup y = some .local := by rfl) (hsw : swapsWith (.ListComp elt [⟨tg, iter, ifs, 0⟩] scope pos) (some (.Name y py)) spos.line X.env = pure true := by exact sw_true rfl rfl rfl (by decide +kernel))
    (hc : X.calm = true := by rfl) (hs : ∀ x, foldedSetIterable iter X.env x = pure x := by exact fs_ns rfl) : JS X (.Assign [.Name y py] (.ListComp elt [⟨tg, iter, ifs, 0⟩] scope pos) spos) P ρ :=
  js_setLcAny m (l' := .frs) (f := fun d => .int (f d)) hi hg ht he hN ok hz (fun T σ a vs T0 F g h0 hi hh r => by
    have e : vs = (((ds.filter Tst).map f).map V.int) := by
      rw [show ((ds.filter Tst).map fun d => D.int (f d)) = ((ds.filter Tst).map f).map D.int by rw [List.map_map]; rfl] at r
      exact r.of_il
    refine ⟨T, _, rfl, g.w, (F.grow g).setOwn (e := .ownI _) ⟨a, rfl, by rw [hh, e], hi⟩ (F.fresh h0), h⟩) hy hyl hsw rfl hc hs

def restr (A : List Addr) (H : Hp) : Hp := fun b => if b ∈ A then H b else none
theorem restr_same {A : List Addr} {H : Hp} : Same (restr A H) H := fun b o h => by
  unfold restr at h
  split at h
  · exact h
  · cases h
theorem restr_in {A : List Addr} {H : Hp} {b : Addr} (m : b ∈ A) : restr A H b = H b := if_pos m
theorem restr_dom {A : List Addr} {H : Hp} {b : Addr} (h : restr A H b ≠ none) : b ∈ A := by
  unfold restr at h
  split at h
  · assumption
  · exact absurd rfl h
theorem uni_right {A B : Hp} {b : Addr} (h : A b = none) : uni A B b = B b := by unfold uni; rw [h]
/-! ### defs -/
def startE (n : Nat) (ds : List D) : PEnv := ds.map (fun d => some (.v .imm d)) ++ List.replicate (n - ds.length) none
theorem RpAll.get? {K : PySem.W.Frag} {H : Hp} {vs : List V} {ds : List D} (r : RpAll K H vs ds) (i : Nat) : (vs[i]? = none ∧ ds[i]? = none) ∨ ∃ v d, vs[i]? = some v ∧ ds[i]? = some d ∧ Rp K H v d := by
  cases e : ds[i]? with
  | none =>
    refine .inl ⟨?_, rfl⟩
    have := List.getElem?_eq_none_iff.mp e
    exact List.getElem?_eq_none_iff.mpr (by rw [r.length]; exact this)
  | some d =>
    obtain ⟨v, h1, h2⟩ := r.get e
    exact .inr ⟨v, d, h1, rfl, h2⟩
theorem fr_start {K : PySem.W.Frag} {H : Hp} {N : List Str} {vs : List V} {ds : List D} (r : RpAll K H vs ds) (hn : ds.length ≤ N.length) : Fr K ⟨H, fun _ => none, H⟩ (L2.start N vs) (startE N.length ds) := by
  have ok : Ok ⟨H, fun _ => none, H⟩ := ⟨fun a o h => (nomatch h), Same.refl _⟩
  have get : ∀ {i : Nat} {e : E}, (startE N.length ds)[i]? = some (some e) → ∃ d, ds[i]? = some d ∧ e = .v .imm d := fun {i e} h => by
    unfold startE at h
    by_cases hi : i < ds.length
    · rw [List.getElem?_append_left (by rw [List.length_map]; exact hi), List.getElem?_map, List.getElem?_eq_getElem hi] at h
      cases h
      exact ⟨_, List.getElem?_eq_getElem hi, rfl⟩
    · rw [List.getElem?_append_right (by rw [List.length_map]; omega), List.getElem?_replicate] at h
      split at h <;> cases h
  refine ⟨ok, ?_, fun i e h => ?_, fun i j e e' a h1 h2 o1 => ?_, fun i j e e' a h1 h2 o1 => ?_, fun i j e e' a h1 h2 o1 => ?_⟩
  · unfold L2.start startE
    rw [List.length_append, List.length_append, List.length_map, List.length_map, List.length_replicate, List.length_replicate, r.length]
  · obtain ⟨d, hd, rfl⟩ := get h
    obtain ⟨v, h1, h2⟩ := r.get hd
    refine ⟨v, ?_, by decide, h2⟩
    unfold L2.start
    have hi : i < vs.length := (List.getElem?_eq_some_iff.mp h1).1
    rw [List.getElem?_append_left (by rw [List.length_map]; exact hi), List.getElem?_map, h1]
    rfl
  · obtain ⟨d, hd, rfl⟩ := get h1
    cases o1
  · obtain ⟨d, hd, rfl⟩ := get h1
    cases o1
  · obtain ⟨d, hd, rfl⟩ := get h1
    cases o1
/-- THE RULE for a def: what its body comes to -/
theorem fn_ok {P : Program} {w : World} {K : PySem.W.Frag} {mg : Str → Option Value} {base : Heap} {x qual : Str} {st : Stmt} {f : Addr} {fd : FuncData} {N ps : List Str} {k : Nat} {pre : List D → Prop} {G : List D → D} (F : Fun K x qual st f fd) (S : FnScope N ps (defScope st))
    (hpre : ∀ ds, pre ds → ds.length = ps.length)
    (body : ∀ (cdv : Value) (A : Around) (outer : List Env) (s : Shared) (H : Hp) (E : XK), Room k (A.deeper (PyProof.Rows.envOfC qual (defScope st) s.heap.objs.size f cdv)) → ∀ ds, pre ds →
      JSs (cxOf CX0 P w K mg base N qual (defScope st) f cdv A outer s H E).nox (defBody st) { nx := fun _ => G ds = .non, rt := fun d => d = G ds, ru := fun d => d = G ds } (startE N.length ds)) :
    FnOk P w K mg base CX0 (k + 1) f fd ps (spF K pre G) := by
  refine F.ok S (fun vs H Q E ⟨ds, r, hp, _⟩ => by rw [r.length]; exact hpre ds hp) fun cdv A outer s H vs Q E hr ⟨ds, r, hp, q⟩ => ?_
  have hlen : ds.length ≤ N.length := by
    rw [hpre ds hp]
    have := congrArg List.length S.pre
    rw [List.length_take] at this
    omega
  refine ⟨_, pss_w, body cdv A outer s H E hr ds hp ⟨H, fun _ => none, H⟩ _ _ (fr_start r hlen) ⟨fun ρ σ T' g F' e => ?_, fun d v T' g e rv => ?_, fun ρ σ T' g F' z => z.elim, fun ρ σ T' g F' z => z.elim, fun g v T' gw eg rg fr nd => ?_, fun _ _ _ _ _ _ _ z => z.elim⟩⟩
  · refine q .non T'.h T'.n (g.xi.trans g.ok.ih) (g.ok.ni.trans g.ok.ih) (fun a h => ?_) (by rw [e]; exact .non)
    cases z : H a with
    | none => rfl
    | some o => exact absurd (g.fn a rfl (by show H a ≠ none; rw [z]; intro y; cases y) (by show H a ≠ none; rw [z]; intro y; cases y)) h
  · subst e
    refine q v T'.h T'.n (g.xi.trans g.ok.ih) (g.ok.ni.trans g.ok.ih) (fun a h => ?_) rv
    cases z : H a with
    | none => rfl
    | some o => exact absurd (g.fn a rfl (by show H a ≠ none; rw [z]; intro y; cases y) (by show H a ≠ none; rw [z]; intro y; cases y)) h
  · refine q v T'.h (uni T'.n (restr (adds g) T'.h)) (gw.xi.trans gw.ok.ih) (uni_to (gw.ok.ni.trans gw.ok.ih) restr_same) (fun a h => ?_) ?_
    · cases z : H a with
      | none => rfl
      | some o =>
        have z1 : T'.i a = some o := gw.xi a o z
        cases e : T'.n a with
        | some u => exact absurd (gw.fn a rfl (by show H a ≠ none; rw [z]; intro y; cases y) (by show H a ≠ none; rw [z]; intro y; cases y)) (by rw [e]; intro y; cases y)
        | none =>
          rw [uni_right e] at h
          rw [fr a (restr_dom h)] at z1
          cases z1
    · rw [← eg]
      exact rg.rp uni_l fun b mb => by rw [uni_right (gw.ok.n_none' (fr b mb)), restr_in mb]
end
end Lf

set_option Elab.async false
set_option linter.all false
set_option maxRecDepth 100000
set_option maxHeartbeats 2000000
set_option autoImplicit false
namespace Lf
open PySem L2
section
variable {X : Cx} {e a b c : Expr} {es : List Expr} {ρ ρ1 : PEnv} {d d1 d2 d3 : D} {l la lb lc : Lv} {pos p p2 : Pos} {i j k : Int} {ns ms : List Int} {ds fs : List D} {kt : Nat} {x y z : Str} {st : Stmt} {sts : List Stmt} {P : PEnds}
variable {scope : Scope} {elt tg iter : Expr} {ifs : List Expr}
theorem filter_tt {α : Type} (xs : List α) : xs.filter (fun _ => true) = xs := List.filter_eq_self.mpr fun _ _ => rfl
/-- no test -/
theorem joi_mapI {x : Str} {n : Nat} {f : Int → Int} (hi : JI X tg iter .frs ρ (ns.map D.int))
    (hg : ∀ k s H C cl fp, JGb (Blk X s H scope C cl fp) tg .frs (.int k) [n] (wipeE ρ n) ((wipeE ρ n).set n (some (.v .frs (.int k)))))
    (he : ∀ k, k ∈ ns → ∀ s H C cl fp, JE (Blk X s H scope C cl fp) .frs elt ((wipeE ρ n).set n (some (.v .frs (.int k)))) (.int (f k))) (hN : X.N.Nodup) (ok : BlkOk X.N X.env.scope scope [(x, n)]) (hz : ns.length ≤ 100000) (hc : X.calm = true := by rfl)
    (hs : ∀ x, foldedSetIterable iter X.env x = pure x := by exact fs_ns rfl) : JOI X (.ListComp elt [⟨tg, iter, [], 0⟩] scope pos) ρ (ns.map f) := by
  have h := joi_lcI (pos := pos) (x := x) (n := n) (Tst := fun _ => true) (f := f) hi hg (fun _ _ _ _ _ _ _ => jts_nil) (fun k hk _ => he k hk) hN ok hz hc hs
  rw [filter_tt] at h
  exact h
theorem jo_mapI {x : Str} {n : Nat} {l' : Lv} {f : Int → D} (hi : JI X tg iter .frs ρ (ns.map D.int))
    (hg : ∀ k s H C cl fp, JGb (Blk X s H scope C cl fp) tg .frs (.int k) [n] (wipeE ρ n) ((wipeE ρ n).set n (some (.v .frs (.int k)))))
    (he : ∀ k, k ∈ ns → ∀ s H C cl fp, JE (Blk X s H scope C cl fp) l' elt ((wipeE ρ n).set n (some (.v .frs (.int k)))) (f k)) (hN : X.N.Nodup) (ok : BlkOk X.N X.env.scope scope [(x, n)]) (hz : ns.length ≤ 100000) (hl' : Lv.le l' .imm = true := by rfl) (hc : X.calm = true := by rfl)
    (hs : ∀ x, foldedSetIterable iter X.env x = pure x := by exact fs_ns rfl) : JO X l' (.ListComp elt [⟨tg, iter, [], 0⟩] scope pos) ρ (ns.map f) := by
  have h := jo_lcI (pos := pos) (x := x) (n := n) (Tst := fun _ => true) (f := f) hi hg (fun _ _ _ _ _ _ _ => jts_nil) (fun k hk _ => he k hk) hN ok hz hl' hc hs
  rw [filter_tt] at h
  exact h
/-- truths -/
theorem jo_mapB {x : Str} {n : Nat} {f : Int → Bool} (hi : JI X tg iter .frs ρ (ns.map D.int))
    (hg : ∀ k s H C cl fp, JGb (Blk X s H scope C cl fp) tg .frs (.int k) [n] (wipeE ρ n) ((wipeE ρ n).set n (some (.v .frs (.int k)))))
    (he : ∀ k, k ∈ ns → ∀ s H C cl fp, JE (Blk X s H scope C cl fp) .frs elt ((wipeE ρ n).set n (some (.v .frs (.int k)))) (.bl (f k))) (hN : X.N.Nodup) (ok : BlkOk X.N X.env.scope scope [(x, n)]) (hz : ns.length ≤ 100000) (hc : X.calm = true := by rfl)
    (hs : ∀ x, foldedSetIterable iter X.env x = pure x := by exact fs_ns rfl) : JO X .frs (.ListComp elt [⟨tg, iter, [], 0⟩] scope pos) ρ ((ns.map f).map D.bl) := by
  have h := jo_mapI (pos := pos) (x := x) (n := n) (f := fun k => .bl (f k)) hi hg he hN ok hz rfl hc hs
  rw [List.map_map]
  exact h
/-- over values of any kind, a name, no test -/
theorem jo_map {x : Str} {n : Nat} {l' : Lv} {f : D → D} (hi : JI X tg iter l ρ ds)
    (hg : ∀ d, d ∈ ds → ∀ s H C cl fp, JGb (Blk X s H scope C cl fp) tg l d [n] (wipeE ρ n) ((wipeE ρ n).set n (some (.v l d))))
    (he : ∀ d, d ∈ ds → ∀ s H C cl fp, JE (Blk X s H scope C cl fp) l' elt ((wipeE ρ n).set n (some (.v l d))) (f d)) (hN : X.N.Nodup) (ok : BlkOk X.N X.env.scope scope [(x, n)]) (hz : ds.length ≤ 100000) (hl' : Lv.le l' .imm = true := by rfl) (hc : X.calm = true := by rfl)
    (hs : ∀ x, foldedSetIterable iter X.env x = pure x := by exact fs_ns rfl) : JO X l' (.ListComp elt [⟨tg, iter, [], 0⟩] scope pos) ρ (ds.map f) := by
  have h := jo_lc (pos := pos) (own := [(x, n)]) (Tst := fun _ => true) (f := f) (ρd := fun d => (wipeE ρ n).set n (some (.v l d))) hi hg (fun _ _ _ _ _ _ _ => jts_nil) (fun d hd _ => he d hd) hN ok hz hl' hc hs
  rw [filter_tt] at h
  exact h
theorem jo_mapDB {x : Str} {n : Nat} {f : D → Bool} (hi : JI X tg iter l ρ ds)
    (hg : ∀ d, d ∈ ds → ∀ s H C cl fp, JGb (Blk X s H scope C cl fp) tg l d [n] (wipeE ρ n) ((wipeE ρ n).set n (some (.v l d))))
    (he : ∀ d, d ∈ ds → ∀ s H C cl fp, JE (Blk X s H scope C cl fp) .frs elt ((wipeE ρ n).set n (some (.v l d))) (.bl (f d))) (hN : X.N.Nodup) (ok : BlkOk X.N X.env.scope scope [(x, n)]) (hz : ds.length ≤ 100000) (hc : X.calm = true := by rfl)
    (hs : ∀ x, foldedSetIterable iter X.env x = pure x := by exact fs_ns rfl) : JO X .frs (.ListComp elt [⟨tg, iter, [], 0⟩] scope pos) ρ ((ds.map f).map D.bl) := by
  have h := jo_map (pos := pos) (x := x) (n := n) (f := fun d => .bl (f d)) hi hg he hN ok hz rfl hc hs
  rw [List.map_map]
  exact h
/-- an expression's value told otherwise -/
theorem JE.eq (h : JE X l e ρ d) (q : d = d1) : JE X l e ρ d1 := by rw [← q]; exact h
theorem JOI.eq (h : JOI X e ρ ns) (q : ns = ms) : JOI X e ρ ms := by rw [← q]; exact h
theorem JI.eq (h : JI X tg iter l ρ ds) (q : ds = fs) : JI X tg iter l ρ fs := by rw [← q]; exact h
theorem JT.eq {v u : Bool} (h : JT X e ρ v) (q : v = u) : JT X e ρ u := by rw [← q]; exact h

/-! ### dicts of one's own, keys ints -/
def lookP {κ : Type} [DecidableEq κ] (kvs : List (κ × D)) (k : κ) : Option D := (kvs.find? fun kv => decide (kv.1 = k)).map (·.2)
def putP {κ : Type} [DecidableEq κ] (kvs : List (κ × D)) (k : κ) (d : D) : List (κ × D) :=
  if (kvs.any fun kv => decide (kv.1 = k)) = true then kvs.map (fun kv => if kv.1 = k then (kv.1, d) else kv) else kvs ++ [(k, d)]
theorem RpK.look {κ κ' : Type} [DecidableEq κ] [DecidableEq κ'] {f : κ → κ'} (inj : ∀ a b, f a = f b → a = b) {K : PySem.W.Frag} {H : Hp} (k : κ) : ∀ {vs : List (κ' × V)} {ds : List (κ × D)}, RpK f K H vs ds →
    (valV vs (f k) = none ∧ lookP ds k = none) ∨ ∃ v d, valV vs (f k) = some v ∧ lookP ds k = some d ∧ Rp K H v d
  | _, _, .nil => .inl ⟨rfl, rfl⟩
  | _, _, .cons (k := k') (v := v) (d := d) (vs := vs) (ds := ds) h r => by
    by_cases e : k' = k
    · subst e
      exact .inr ⟨v, d, by simp [valV], by simp [lookP], h⟩
    · have e' : ¬ f k' = f k := fun z => e (inj _ _ z)
      have h1 : valV ((f k', v) :: vs) (f k) = valV vs (f k) := valV_neg e'
      have h2 : lookP ((k', d) :: ds) k = lookP ds k := by simp [lookP, List.find?_cons, e]
      rw [h1, h2]
      exact RpK.look inj k r
theorem RpK.any {κ κ' : Type} [DecidableEq κ] [DecidableEq κ'] {f : κ → κ'} (inj : ∀ a b, f a = f b → a = b) {K : PySem.W.Frag} {H : Hp} (k : κ) : ∀ {vs : List (κ' × V)} {ds : List (κ × D)}, RpK f K H vs ds → (vs.any fun kv => decide (kv.1 = f k)) = (ds.any fun kv => decide (kv.1 = k))
  | _, _, .nil => rfl
  | _, _, .cons (k := k') h r => by
    rw [List.any_cons, List.any_cons, RpK.any inj k r]
    by_cases e : k' = k
    · subst e; simp
    · have e' : ¬ f k' = f k := fun z => e (inj _ _ z)
      simp [e, e']
theorem RpK.map {κ κ' : Type} [DecidableEq κ] [DecidableEq κ'] {f : κ → κ'} (inj : ∀ a b, f a = f b → a = b) {K : PySem.W.Frag} {H : Hp} {v : V} {d : D} (q : Rp K H v d) (k : κ) : ∀ {vs : List (κ' × V)} {ds : List (κ × D)}, RpK f K H vs ds →
    RpK f K H (vs.map fun kv => if kv.1 = f k then (kv.1, v) else kv) (ds.map fun kv => if kv.1 = k then (kv.1, d) else kv)
  | _, _, .nil => .nil
  | _, _, .cons (k := k') h r => by
    rw [List.map_cons, List.map_cons]
    by_cases e : k' = k
    · subst e
      simp only [if_true]
      exact .cons q (RpK.map inj q k' r)
    · have e' : ¬ f k' = f k := fun z => e (inj _ _ z)
      simp only [e, e', if_false]
      exact .cons h (RpK.map inj q k r)
theorem RpK.snoc {κ κ' : Type} {f : κ → κ'} {K : PySem.W.Frag} {H : Hp} {v : V} {d : D} (q : Rp K H v d) (k : κ) : ∀ {vs : List (κ' × V)} {ds : List (κ × D)}, RpK f K H vs ds → RpK f K H (vs ++ [(f k, v)]) (ds ++ [(k, d)])
  | _, _, .nil => .cons q .nil
  | _, _, .cons h r => .cons h (RpK.snoc q k r)
theorem RpK.put {κ κ' : Type} [DecidableEq κ] [DecidableEq κ'] {f : κ → κ'} (inj : ∀ a b, f a = f b → a = b) {K : PySem.W.Frag} {H : Hp} {v : V} {d : D} (q : Rp K H v d) (k : κ) {vs : List (κ' × V)} {ds : List (κ × D)} (r : RpK f K H vs ds) : RpK f K H (putK vs (f k) v) (putP ds k d) := by
  unfold putK putP
  rw [RpK.any inj k r]
  split
  · exact RpK.map inj q k r
  · exact RpK.snoc q k r
theorem inj_I : ∀ a b : Int, keyI a = keyI b → a = b := fun a b h => Sum.inl.inj h
theorem inj_T : ∀ a b : List Int, keyT a = keyT b → a = b := fun a b h => List.map_inj_right (fun x y z => Sum.inl.inj z) |>.mp h
variable {kvs : List (Int × D)} {kvt : List (List Int × D)} {n : Nat}
/-- x = {} -/
theorem js_setDI (n : Nat) {p' : Pos} (h : P.nx (ρ.set n (some (.dI l [])))) (hl : l ≠ .full := by decide) (hN : X.N.Nodup) (hi : X.N[n]? = some x := by rfl) (hx : Loc X.env.scope x := by first | exact Or.inl rfl | exact Or.inr rfl)
    (hs : swapsWith (.Dict [] [] p) (some (.Name x p')) pos.line X.env = pure false := by exact sw_ns rfl) (hf : X.fn x = true ∨ X.env.scope.names.lookup x = some .local := by exact Or.inl rfl) : JS X (.Assign [.Name x p'] (.Dict [] [] p) pos) P ρ :=
  JS.of (ps_set (i := n) hN hi hx pe_dnewK hs hf) fun T σ D F m => fun a ha => m.nx _ _ (T.put a (.dK [])) (Grow.put F.ok ha).w ((F.grow (Grow.put F.ok ha)).setOwn (e := .dI l []) ⟨hl, a, [], rfl, upd_same, F.ok.i_none ha, .nil⟩ (F.fresh ha)) h
theorem js_setDT (n : Nat) {p' : Pos} (h : P.nx (ρ.set n (some (.dT l [])))) (hl : l ≠ .full := by decide) (hN : X.N.Nodup) (hi : X.N[n]? = some x := by rfl) (hx : Loc X.env.scope x := by first | exact Or.inl rfl | exact Or.inr rfl)
    (hs : swapsWith (.Dict [] [] p) (some (.Name x p')) pos.line X.env = pure false := by exact sw_ns rfl) (hf : X.fn x = true ∨ X.env.scope.names.lookup x = some .local := by exact Or.inl rfl) : JS X (.Assign [.Name x p'] (.Dict [] [] p) pos) P ρ :=
  JS.of (ps_set (i := n) hN hi hx pe_dnewT hs hf) fun T σ D F m => fun a ha => m.nx _ _ (T.put a (.dT [])) (Grow.put F.ok ha).w ((F.grow (Grow.put F.ok ha)).setOwn (e := .dT l []) ⟨hl, a, [], rfl, upd_same, F.ok.i_none ha, .nil⟩ (F.fresh ha)) h
/-- d[k] = v -/
theorem js_putI (n : Nat) {pt : Pos} (hu : X.A.units + 1 < cLine) (hr : ρ[n]? = some (some (.dI l kvs))) (he : JE X la e ρ d) (hb : JE X lb b ρ (.int i)) (h : P.nx (ρ.set n (some (.dI l (putP kvs i d))))) (hz : kvs.length < 100000) (hle : Lv.le la l = true := by rfl) (hN : X.N[n]? = some x := by rfl)
    (hv : Vis X.env.scope x := by first | exact Or.inl rfl | exact Or.inr (Or.inl rfl) | exact Or.inr (Or.inr rfl)) (hd : (x == ("__debug__" : Str)) = false := by decide) (hcd : (x == ("__classdict__" : Str)) = false := by decide)
    (hs : swapsWith e (some (.Subscript (.Name x p) b pt)) pos.line X.env = pure false := by exact sw_ns rfl) : JS X (.Assign [.Subscript (.Name x p) b pt] e pos) P ρ :=
  JS.of (ps_dput hu (pe_var hN hv hd hcd) pe_w pe_w hs) fun T σ D F m => he T σ _ F fun w T1 g1 r1 => by
    obtain ⟨v, h1, hl, a, ws, rfl, h2, h3, rr⟩ := F.val n _ hr
    refine ⟨_, h1, hb T1 σ _ (F.grow g1) fun u T2 g2 r2 => ?_⟩
    cases r2
    have g := g1.trans g2
    have h2' := g.ex _ _ h2
    have h3' := g.fi a h3 (by rw [h2]; intro z; cases z)
    refine ⟨a, _, rfl, DPut.k (k := Sum.inl i) h2' (by rw [rr.length]; exact small_lt hz), ?_⟩
    refine m.nx _ σ (T2.put a (.dK (putK ws (Sum.inl i) w))) (g.w.trans (Gw.put g.ok h3')) ((F.grow g).chg (e1 := .dI l (putP kvs i d)) hr rfl h1 rfl ⟨hl, a, _, rfl, upd_same, h3', ?_⟩) h
    have z := RpK.put inj_I ((r1.mono (g1.ok.le hle)).mono (g2.at l)) i (rr.mono (g.at l))
    cases l with
    | full => exact absurd rfl hl
    | imm => exact z
    | frs => exact z
theorem js_putT (n : Nat) {pt : Pos} {ks : List Int} (hu : X.A.units + 1 < cLine) (hr : ρ[n]? = some (some (.dT l kvt))) (he : JE X la e ρ d) (hb : JE X lb b ρ (.tup (ks.map D.int))) (h : P.nx (ρ.set n (some (.dT l (putP kvt ks d))))) (hz : kvt.length < 100000) (hle : Lv.le la l = true := by rfl) (hN : X.N[n]? = some x := by rfl)
    (hv : Vis X.env.scope x := by first | exact Or.inl rfl | exact Or.inr (Or.inl rfl) | exact Or.inr (Or.inr rfl)) (hd : (x == ("__debug__" : Str)) = false := by decide) (hcd : (x == ("__classdict__" : Str)) = false := by decide)
    (hs : swapsWith e (some (.Subscript (.Name x p) b pt)) pos.line X.env = pure false := by exact sw_ns rfl) : JS X (.Assign [.Subscript (.Name x p) b pt] e pos) P ρ :=
  JS.of (ps_dput hu (pe_var hN hv hd hcd) pe_w pe_w hs) fun T σ D F m => he T σ _ F fun w T1 g1 r1 => by
    obtain ⟨v, h1, hl, a, ws, rfl, h2, h3, rr⟩ := F.val n _ hr
    refine ⟨_, h1, hb T1 σ _ (F.grow g1) fun u T2 g2 r2 => ?_⟩
    cases r2 with
    | tup hq ra =>
      have g := g1.trans g2
      have h2' := g.ex _ _ h2
      have h3' := g.fi a h3 (by rw [h2]; intro z; cases z)
      have e1 := ra.of_il
      subst e1
      have ht := g2.ok.full (a := lb) _ _ hq
      refine ⟨a, _, rfl, DPut.t (k := ks.map Sum.inl) h2' (by rw [List.map_map]; exact ht) (by rw [rr.length]; exact small_lt hz), ?_⟩
      refine m.nx _ σ (T2.put a (.dT (putK ws (keyT ks) w))) (g.w.trans (Gw.put g.ok h3')) ((F.grow g).chg (e1 := .dT l (putP kvt ks d)) hr rfl h1 rfl ⟨hl, a, _, rfl, upd_same, h3', ?_⟩) h
      have z := RpK.put inj_T ((r1.mono (g1.ok.le hle)).mono (g2.at l)) ks (rr.mono (g.at l))
      cases l with
      | full => exact absurd rfl hl
      | imm => exact z
      | frs => exact z
/-- d.get(k, e) -/
theorem je_get (n : Nat) {apos cpos : Pos} (hu : X.A.units + 1 < cLine) (hr : ρ[n]? = some (some (.dI l kvs))) (hb : JE X lb b ρ (.int i)) (he : JE X la e ρ d) (hle : Lv.le la l = true := by rfl) (hN : X.N[n]? = some x := by rfl)
    (hv : Vis X.env.scope x := by first | exact Or.inl rfl | exact Or.inr (Or.inl rfl) | exact Or.inr (Or.inr rfl)) (hd : (x == ("__debug__" : Str)) = false := by decide) (hcd : (x == ("__classdict__" : Str)) = false := by decide)
    (m : M2 X (.Name x p) "get" apos b e cpos := by exact ⟨rfl, rfl, rfl, rfl⟩) : JE X l (.Call (.Attribute (.Name x p) "get" apos) [b, e] [] cpos) ρ ((lookP kvs i).getD d) :=
  JE.of (pe_dget2 hu (pe_var hN hv hd hcd) pe_w pe_w m) fun T σ Q F q => by
    obtain ⟨v, h1, hl, a, ws, rfl, h2, h3, rr⟩ := F.val n _ hr
    refine ⟨_, h1, a, rfl, .inl ⟨ws, .inl h2⟩, hb T σ _ F fun u T1 g1 r1 => he T1 σ _ (F.grow g1) fun w T2 g2 r2 => ?_⟩
    cases r1
    have g := g1.trans g2
    have h2' := g.ex _ _ h2
    refine ⟨_, DGet.k (k := Sum.inl i) h2', ?_⟩
    rcases RpK.look inj_I i (rr.mono (g.at l)) with ⟨z1, z2⟩ | ⟨v, d', z1, z2, z3⟩
    · have z1' : valV ws (Sum.inl i) = none := z1
      rw [z1']
      rw [z2] at q
      exact q _ T2 g (r2.mono (g2.ok.le hle))
    · have z1' : valV ws (Sum.inl i) = some v := z1
      rw [z1']
      rw [z2] at q
      exact q _ T2 g z3
/-- k in d -/
theorem jc_dinI (n : Nat) (hu : X.A.units + 1 < cLine) (hb : JE X lb b ρ (.int i)) (hr : ρ[n]? = some (some (.dI l kvs))) (hN : X.N[n]? = some x := by rfl)
    (hv : Vis X.env.scope x := by first | exact Or.inl rfl | exact Or.inr (Or.inl rfl) | exact Or.inr (Or.inr rfl)) (hd : (x == ("__debug__" : Str)) = false := by decide) (hcd : (x == ("__classdict__" : Str)) = false := by decide) : JC X .In b (.Name x p) ρ (lookP kvs i).isSome :=
  fun T σ Q F q pins s I => (pc_din hu pe_w (pe_var hN hv hd hcd)).run pins s σ T.h Q I (hb T σ _ F fun u T1 g1 r1 => by
    obtain ⟨v, h1, hl, a, ws, rfl, h2, h3, rr⟩ := F.val n _ hr
    cases r1
    refine ⟨_, h1, a, _, rfl, DGet.k (k := Sum.inl i) (g1.ex _ _ h2), ?_⟩
    rcases RpK.look inj_I i rr with ⟨z1, z2⟩ | ⟨v, d', z1, z2, z3⟩
    · have z1' : valV ws (Sum.inl i) = none := z1
      rw [z1']
      rw [z2] at q
      exact q T1 g1
    · have z1' : valV ws (Sum.inl i) = some v := z1
      rw [z1']
      rw [z2] at q
      exact q T1 g1)
theorem je_lenDI (n : Nat) (hm : X.mg "len" = none) (hr : ρ[n]? = some (some (.dI l kvs))) (hN : X.N[n]? = some x := by rfl)
    (hv : Vis X.env.scope x := by first | exact Or.inl rfl | exact Or.inr (Or.inl rfl) | exact Or.inr (Or.inr rfl)) (hd : (x == ("__debug__" : Str)) = false := by decide) (hcd : (x == ("__classdict__" : Str)) = false := by decide)
    (hg : Gl X "len" := by rfl) {pl pn : Pos} (he : starEach [.Name x pn] X.env = (false, eval (.Name x pn) X.env) :: starEach [] X.env := by exact star_c rfl) (hpl : (backTo pos (starEach [] X.env)).any (·.1) = false := by exact back_ns rfl) : JE X .frs (.Call (.Name "len" p) [.Name x pn] [] pos) ρ (.int kvs.length) :=
  JE.of (pe_callB call_lenD hg hm PySem.boot_len (pa_cons (pe_var hN hv hd hcd) pa_nil he) (by decide) (by decide) he hpl) fun T σ Q F q => by
    obtain ⟨v, h1, hl, a, ws, rfl, h2, h3, rr⟩ := F.val n _ hr
    refine ⟨_, h1, a, ws, rfl, h2, ?_⟩
    rw [rr.length]
    exact q _ T (Grow.refl F.ok) (.int _)
/-! ### dicts of ints to ints; enumerate from k -/
def dII (m : List (Int × Int)) : List (Int × D) := m.map fun p => (p.1, .int p.2)
def lookI (m : List (Int × Int)) (k : Int) : Option Int := (m.find? fun p => decide (p.1 = k)).map (·.2)
def putI (m : List (Int × Int)) (k v : Int) : List (Int × Int) := if (m.any fun p => decide (p.1 = k)) = true then m.map (fun p => if p.1 = k then (p.1, v) else p) else m ++ [(k, v)]
theorem lookP_dII (m : List (Int × Int)) (k : Int) : lookP (dII m) k = (lookI m k).map D.int := by
  unfold lookP dII lookI
  rw [List.find?_map, Option.map_map, Option.map_map]
  rfl
theorem putP_dII (m : List (Int × Int)) (k v : Int) : putP (dII m) k (.int v) = dII (putI m k v) := by
  unfold putP dII putI
  rw [List.any_map]
  show (if (m.any fun p => decide (p.1 = k)) = true then _ else _) = _
  split
  · rw [List.map_map, List.map_map]
    congr 1
    funext p
    show (if p.1 = k then (p.1, D.int v) else (p.1, D.int p.2)) = _
    by_cases h : p.1 = k
    · simp [h]
    · simp [h]
  · rw [List.map_append]
    rfl
theorem lookI_put (m : List (Int × Int)) (k v j : Int) : lookI (putI m k v) j = if j = k then some v else lookI m j := by
  unfold putI
  split
  · rename_i h
    have key : ∀ m : List (Int × Int), lookI (m.map fun p => if p.1 = k then (p.1, v) else p) j = if j = k then (lookI m k).map (fun _ => v) else lookI m j := by
      intro m
      induction m with
      | nil => unfold lookI; simp
      | cons p r ih =>
        unfold lookI at ih ⊢
        rw [List.map_cons]
        by_cases e : p.1 = k
        · by_cases e2 : j = k
          · subst e2; simp [List.find?_cons, e]
          · have e3 : ¬ k = j := fun z => e2 z.symm
            have e4 : ¬ p.1 = j := fun z => e2 (z.symm.trans e)
            simp only [e, if_true, List.find?_cons, e3, e4, e2, decide_false, if_false, Bool.false_eq_true] at ih ⊢
            simpa [e] using ih
        · by_cases e2 : p.1 = j
          · have e3 : ¬ j = k := fun z => e (e2.trans z)
            simp [e, e2, List.find?_cons, e3]
          · simp only [e, if_false, List.find?_cons, e2, decide_false, Bool.false_eq_true] at ih ⊢
            exact ih
    rw [key]
    by_cases e : j = k
    · simp only [e, if_true]
      unfold lookI
      have : (m.find? fun p => decide (p.1 = k)).isSome = true := by
        rw [List.find?_isSome]
        obtain ⟨p, hp, hq⟩ := List.any_eq_true.mp h
        exact ⟨p, hp, hq⟩
      obtain ⟨q, hq⟩ := Option.isSome_iff_exists.mp this
      rw [hq]
      rfl
    · simp only [e, if_false]
  · rename_i h
    unfold lookI
    rw [List.find?_append]
    by_cases e : j = k
    · subst e
      have : m.find? (fun p => decide (p.1 = j)) = none := by
        rw [List.find?_eq_none]
        intro p hp hq
        exact h (List.any_eq_true.mpr ⟨p, hp, hq⟩)
      rw [this]
      simp
    · have e3 : ¬ k = j := fun z => e z.symm
      cases q : m.find? (fun p => decide (p.1 = j)) with
      | none => simp [e, e3, List.find?_cons]
      | some p => simp [e]
theorem putI_length (m : List (Int × Int)) (k v : Int) : (putI m k v).length ≤ m.length + 1 := by
  unfold putI
  split
  · rw [List.length_map]; omega
  · rw [List.length_append]; simp
def enumF (k : Nat) : List Int → List D
  | [] => []
  | n :: r => .tup [.int (k : Int), .int n] :: enumF (k + 1) r
theorem enumF_get : ∀ (ns : List Int) (k i : Nat), (enumF k ns)[i]? = (ns[i]?).map fun n => .tup [.int ((k + i : Nat) : Int), .int n]
  | [], k, i => by simp [enumF]
  | n :: r, k, 0 => by simp [enumF]
  | n :: r, k, i + 1 => by
    show (enumF (k + 1) r)[i]? = _
    rw [enumF_get r (k + 1) i]
    simp only [List.getElem?_cons_succ]
    rw [show k + 1 + i = k + (i + 1) by omega]
theorem enumI_eq (ns : List Int) : enumI ns = enumF 0 ns := by
  apply List.ext_getElem?
  intro i
  rw [enumF_get]
  cases e : ns[i]? with
  | none => exact List.getElem?_eq_none (by rw [enumI_length]; exact List.getElem?_eq_none_iff.mp e)
  | some n =>
    rw [enumI_get e]
    simp
end
end Lf

set_option Elab.async false
set_option linter.all false
set_option maxRecDepth 100000
set_option maxHeartbeats 2000000
set_option autoImplicit false
namespace Lf
open PySem L2
section
variable {X : Cx} {e a b c : Expr} {es : List Expr} {ρ ρ1 : PEnv} {d d1 d2 d3 : D} {l la lb lc : Lv} {pos p p2 : Pos} {i j k : Int} {ns ms : List Int} {ds fs : List D} {kt : Nat} {x y z : Str} {st : Stmt} {sts : List Stmt} {P : PEnds}
/-- x, y = [..], {} -/
theorem js_parOD (n m : Nat) {px py pt pt2 pd : Pos} {k1 k2 : Nat} (ha : JOI X a ρ ns) (h : P.nx ((ρ.set n (some (.ownI ns))).set m (some (.dI l [])))) (hl : l ≠ .full := by decide) (hN : X.N.Nodup) (hnm : n ≠ m := by decide) (hi : X.N[n]? = some x := by rfl) (hj : X.N[m]? = some y := by rfl)
    (hx : X.env.scope.names.lookup x = some .local := by rfl) (hy : X.env.scope.names.lookup y = some .local := by rfl) (hc : X.calm = true := by rfl)
    (hw : swappedStores [.Tuple [.Name x px, .Name y py] k1 pt] (.Tuple [a, .Dict [] [] pd] k2 pt2) X.env = pure (some [x, y]) := by rfl)
    (hs : swapsWithSole [.Tuple [.Name x px, .Name y py] k1 pt] (.Tuple [a, .Dict [] [] pd] k2 pt2) pos.line X.env = pure false := by exact sws_ns rfl)
    (hs1 : starEach [a, .Dict [] [] pd] X.env = (false, eval a X.env) :: starEach [.Dict [] [] pd] X.env := by exact star_c rfl) (hs2 : starEach [.Dict [] [] pd] X.env = (false, eval (.Dict [] [] pd) X.env) :: starEach [] X.env := by exact star_c rfl) : JS X (.Assign [.Tuple [.Name x px, .Name y py] k1 pt] (.Tuple [a, .Dict [] [] pd] k2 pt2) pos) P ρ :=
  JS.of (ps_par (i := n) (j := m) hc hN hi hj hnm hx hy (pa_cons pe_w (pa_cons pe_dnewK pa_nil hs2) hs1) hw hs) fun T σ D F mm => ha T σ _ F fun a T1 g1 h0 h1 h2 => fun q hq => by
    refine ⟨_, _, rfl, mm.nx _ _ (T1.put q (.dK [])) (g1.w.trans (Grow.put g1.ok hq).w) ?_ h⟩
    have F1 := (F.grow g1).setOwn (i := n) (e := .ownI ns) ⟨a, rfl, h2, h1⟩ (F.fresh h0)
    exact (F1.grow (Grow.put g1.ok hq)).setOwn (i := m) (e := .dI l []) ⟨hl, q, [], rfl, upd_same, g1.ok.i_none hq, .nil⟩ (F1.fresh hq)
/-- x, y = [..], [..] of ints, both own -/
theorem js_parOO (n m : Nat) {px py pt pt2 : Pos} {k1 k2 : Nat} (ha : JOI X a ρ ns) (hb : JOI X b ρ ms) (h : P.nx ((ρ.set n (some (.ownI ns))).set m (some (.ownI ms)))) (hN : X.N.Nodup) (hnm : n ≠ m := by decide) (hi : X.N[n]? = some x := by rfl) (hj : X.N[m]? = some y := by rfl)
    (hx : X.env.scope.names.lookup x = some .local := by rfl) (hy : X.env.scope.names.lookup y = some .local := by rfl) (hc : X.calm = true := by rfl)
    (hw : swappedStores [.Tuple [.Name x px, .Name y py] k1 pt] (.Tuple [a, b] k2 pt2) X.env = pure (some [x, y]) := by rfl)
    (hs : swapsWithSole [.Tuple [.Name x px, .Name y py] k1 pt] (.Tuple [a, b] k2 pt2) pos.line X.env = pure false := by exact sws_ns rfl)
    (hs1 : starEach [a, b] X.env = (false, eval a X.env) :: starEach [b] X.env := by exact star_c rfl) (hs2 : starEach [b] X.env = (false, eval b X.env) :: starEach [] X.env := by exact star_c rfl) : JS X (.Assign [.Tuple [.Name x px, .Name y py] k1 pt] (.Tuple [a, b] k2 pt2) pos) P ρ :=
  JS.of (ps_par (i := n) (j := m) hc hN hi hj hnm hx hy (pa_cons pe_w (pa_cons pe_w pa_nil hs2) hs1) hw hs) fun T σ D F mm => ha T σ _ F fun a T1 g1 h0 h1 h2 => hb T1 σ _ (F.grow g1) fun q T2 g2 h3 h4 h5 => by
    refine ⟨_, _, rfl, mm.nx _ _ T2 (g1.w.trans g2.w) ?_ h⟩
    have F1 := (F.grow g1).setOwn (i := n) (e := .ownI ns) ⟨a, rfl, h2, h1⟩ (F.fresh h0)
    exact (F1.grow g2).setOwn (i := m) (e := .ownI ms) ⟨q, rfl, h5, h4⟩ (F1.fresh h3)
/-- an own list of ints from a call -/
theorem joi_call {m n : Nat} {pre : List D → Prop} {G : List D → D} (C : Callee X.prog X.w X.K X.mg X.base m x pre G) (hr : Room n X.A) (ha : JA X .full (e :: es) ρ ds) (hp : pre ds) (hq : G ds = .il ns := by rfl) (hk : m ≤ n := by decide) (hg : Gl X x := by rfl) (hdb : (x == ("__debug__" : Str)) = false := by decide)
    (he : starEach (e :: es) X.env = (false, eval e X.env) :: starEach es X.env := by exact star_c rfl) (hpl : (backTo pos (starEach es X.env)).any (·.1) = false := by exact back_ns rfl) : JOI X (.Call (.Name x p) (e :: es) [] pos) ρ ns := by
  obtain ⟨f, fd, ps, F, hm, hkp, hb⟩ := C.ex
  refine JOI.of (pe_call F (hr.mono hk) hg hm hkp hb .nil pass0 pa_w hdb he hpl) fun T σ Q Fm q => ha T σ _ Fm fun vs T1 g1 r1 => ?_
  refine ⟨ds, by rw [List.append_nil]; exact r1, hp, fun v H' Hn h1 h2 dj rv => ?_⟩
  rw [hq] at rv
  cases rv with
  | il h =>
    have hnew := dj _ (by rw [h]; intro z; cases z)
    have G : Grow T ⟨T1.i, T1.n, H'⟩ := g1.trans ⟨⟨g1.ok.ni, g1.ok.ih.trans h1⟩, h1, Same.refl _, Same.refl _, fun _ z _ => z, fun _ z _ => z⟩
    exact q _ ⟨T1.i, T1.n, H'⟩ G (Same.free g1.ex hnew) (g1.ok.i_none hnew) (h2 _ _ h)

/-! ### the script, read -/
theorem je_sumS (hm : X.mg "sum" = none) (ha : JE X la e ρ (.scr ns)) (hc : X.calm = true := by rfl) (hg : Gl X "sum" := by rfl) (he : starEach [e] X.env = (false, eval e X.env) :: starEach [] X.env := by exact star_c rfl) (hpl : (backTo pos (starEach [] X.env)).any (·.1) = false := by exact back_ns rfl) :
    JE X .frs (.Call (.Name "sum" p) [e] [] pos) ρ (.int ns.sum) :=
  je_callB (cr_sum hc) hm (by decide +kernel) (ja_cons ha ja_nil (Lv.le_full _) he) (fun T vs Q o r q => by
    cases r with
    | cons r1 r2 =>
      cases r2
      cases r1 with
      | scr h => exact ⟨_, _, rfl, h, q _ T (Grow.refl o) (.int _)⟩) hg (by decide) (by decide) he hpl
theorem je_lenS (hm : X.mg "len" = none) (ha : JE X la e ρ (.scr ns)) (hg : Gl X "len" := by rfl) (he : starEach [e] X.env = (false, eval e X.env) :: starEach [] X.env := by exact star_c rfl) (hpl : (backTo pos (starEach [] X.env)).any (·.1) = false := by exact back_ns rfl) :
    JE X .frs (.Call (.Name "len" p) [e] [] pos) ρ (.int ns.length) :=
  je_callB call_len_seq hm PySem.boot_len (ja_cons ha ja_nil (Lv.le_full _) he) (fun T vs Q o r q => by
    cases r with
    | cons r1 r2 =>
      cases r2
      cases r1 with
      | scr h =>
        refine ⟨_, _, rfl, .inl h, ?_⟩
        rw [List.length_map]
        exact q _ T (Grow.refl o) (.int _)) hg (by decide) (by decide) he hpl
theorem ji_listS {tg : Expr} (ha : JE X la a ρ (.scr ns)) (z : Lv.le la .imm = true := by rfl) : JI X tg a .frs ρ (ns.map D.int) :=
  JI.of (pi_list pe_w) fun T σ R F q => ha T σ _ F fun v T1 g1 r1 => by
    cases r1 with
    | scr h =>
      have hi := (g1.ok.le z).seq h
      refine ⟨_, rfl, ⟨_, g1.ok.ih.seq hi⟩, q _ T1 g1 fun T' i s sn o => ⟨fun d e => ?_, fun e => ?_⟩⟩
      · have e' : ns[i]?.map D.int = some d := by rw [← List.getElem?_map]; exact e
        cases en : ns[i]? with
        | none => rw [en] at e'; cases e'
        | some n =>
          rw [en] at e'
          cases e'
          have hx : (ns.map V.int)[i]? = some (.int n) := by rw [List.getElem?_map, en]; rfl
          refine ⟨⟨_, _, (s.trans o.ih).seq hi, hx⟩, fun x H' y => ?_⟩
          obtain ⟨rfl, y⟩ := y
          have ex := y _ ((s.trans o.ih).seq hi)
          rw [hx] at ex
          cases ex
          exact ⟨T', rfl, Grow.refl o, .int n⟩
      · refine ⟨_, (s.trans o.ih).seq hi, ?_⟩
        have := List.getElem?_eq_none_iff.mp e
        rw [List.length_map] at this ⊢
        exact this
theorem ji_zipS {elts : List Expr} {kk : Nat} {tpos : Pos} (hm : X.mg "zip" = none) (ha : JE X la a ρ (.il ns)) (hb : JE X lb b ρ (.scr ms)) (z : Lv.le la .imm = true := by rfl) (z2 : Lv.le lb .imm = true := by rfl) (hg : Gl X "zip" := by rfl) (hs : starEach [a, b] X.env = (false, eval a X.env) :: starEach [b] X.env := by exact star_c rfl)
    (hs2 : starEach [b] X.env = (false, eval b X.env) :: starEach [] X.env := by exact star_c rfl) (hpl : (backTo pos (starEach [b] X.env)).any (·.1) = false := by exact back_ns rfl) : JI X (.Tuple elts kk tpos) (.Call (.Name "zip" p) [a, b] [] pos) .frs ρ (zipI ns ms) :=
  JI.of (pi_zip hg hm (pa_cons pe_w (pa_cons pe_w pa_nil hs2) hs) hs hpl) fun T σ R F q => ha T σ _ F fun v T1 g1 r1 => hb T1 σ _ (F.grow g1) fun u T2 g2 r2 => by
    have g := g1.trans g2
    cases r1 with
    | il h =>
      have h := SqL.of (K := X.K) h
      cases r2 with
      | scr h2 =>
        have hi := g2.xi.seq ((g1.ok.le z).seq h)
        have hi2 := (g2.ok.le z2).seq h2
        refine ⟨_, _, _, _, rfl, g2.ok.ih.seq hi, g2.ok.ih.seq hi2, q _ T2 g fun T' i s sn o => ⟨fun d e => ?_, fun e => ?_⟩⟩
        · have hlt : i < ns.length ∧ i < ms.length := by
            have := (List.getElem?_eq_some_iff.mp e).1
            unfold zipI at this
            rw [List.length_map, List.length_zip] at this
            omega
          have hq := (s.trans o.ih).seq hi
          have hq2 := (s.trans o.ih).seq hi2
          have en : ns[i]? = some ns[i] := List.getElem?_eq_getElem hlt.1
          have em : ms[i]? = some ms[i] := List.getElem?_eq_getElem hlt.2
          have hx : (ns.map V.int)[i]? = some (.int ns[i]) := by rw [List.getElem?_map, en]; rfl
          have hy : (ms.map V.int)[i]? = some (.int ms[i]) := by rw [List.getElem?_map, em]; rfl
          have ed : d = .tup [.int ns[i], .int ms[i]] := by
            unfold zipI at e
            rw [List.getElem?_map, List.getElem?_eq_getElem (by rw [List.length_zip]; omega), List.getElem_zip] at e
            cases e
            rfl
          subst ed
          refine ⟨⟨_, _, _, _, hq, hq2, hx, hy⟩, fun x H' y => ?_⟩
          obtain ⟨t, w, w2, rfl, ht, rfl, y1, y2⟩ := y
          have ex := y1 _ hq
          rw [hx] at ex
          cases ex
          have ey := y2 _ hq2
          rw [hy] at ey
          cases ey
          exact ⟨(T'.put t _).fix t _, rfl, (Grow.put o ht).fix ht (o.i_none ht) upd_same, .tup upd_same (.cons (.int _) (.cons (.int _) .nil))⟩
        · refine ⟨_, _, (s.trans o.ih).seq hi, (s.trans o.ih).seq hi2, ?_⟩
          have := List.getElem?_eq_none_iff.mp e
          unfold zipI at this
          rw [List.length_map, List.length_zip] at this
          rw [List.length_map, List.length_map]
          omega
theorem joi_stepS {k : Nat} {s : Int} {p1 p3 : Pos} (ha : JE X la a ρ (.scr ns)) (hs : 0 < s := by decide) (hz : ns.length ≤ 100000) : JOI X (.Subscript a (.Slice none none (some (.Constant (.int s) k p1)) p3) pos) ρ (stepL ns none none (some s)) :=
  JOI.of (pe_stepL pe_w po_none (by omega)) fun T σ Q F q => ha T σ _ F fun v T1 g1 r1 => by
    have r1' := r1.mono g1.ok.full
    cases r1' with
    | scr h1 =>
      refine ⟨_, _, rfl, h1, ?_, fun p hp => ?_⟩
      · rw [stepL_map, List.length_map]
        exact small_of (Nat.le_trans (stepL_len ns none hs) hz)
      · rw [stepL_map]
        exact q p (T1.put p _) (g1.trans (Grow.put g1.ok hp)) (Same.free g1.ex hp) (g1.ok.i_none hp) upd_same
theorem joi_stepFS {k k2 : Nat} {s f : Int} {p0 p1 p3 : Pos} (ha : JE X la a ρ (.scr ns)) (hs : 0 < s := by decide) (hz : ns.length ≤ 100000) : JOI X (.Subscript a (.Slice (some (.Constant (.int f) k2 p0)) none (some (.Constant (.int s) k p1)) p3) pos) ρ (stepL ns (some f) none (some s)) :=
  JOI.of (pe_stepL (ol := some f) pe_w ⟨fun pins s' σ H Q I h => (po_some pe_int).run pins s' σ H Q I ⟨f, rfl, h⟩⟩ (by omega)) fun T σ Q F q => ha T σ _ F fun v T1 g1 r1 => by
    have r1' := r1.mono g1.ok.full
    cases r1' with
    | scr h1 =>
      refine ⟨_, _, rfl, h1, ?_, fun p hp => ?_⟩
      · rw [stepL_map, List.length_map]
        exact small_of (Nat.le_trans (stepL_len ns _ hs) hz)
      · rw [stepL_map]
        exact q p (T1.put p _) (g1.trans (Grow.put g1.ok hp)) (Same.free g1.ex hp) (g1.ok.i_none hp) upd_same
variable {lo hi : Option Expr} {ol oh : Option Int}
theorem joi_cutS (ha : JE X la a ρ (.scr ns)) (hl : JP X lo ρ ol) (hh : JP X hi ρ oh) : JOI X (.Subscript a (.Slice lo hi none p2) pos) ρ (cutL ns ol oh) :=
  JOI.of (pe_slice sl_list pe_w po_w po_w) fun T σ Q F q => ha T σ _ F fun v T1 g1 r1 => hl T1 σ _ (F.grow g1) fun T2 g2 => hh T2 σ _ ((F.grow g1).grow g2) fun T3 g3 => by
    have r1' := ((r1.mono g1.ok.full).mono g2.ex).mono g3.ex
    cases r1' with
    | scr h1 =>
      have G := (g1.trans g2).trans g3
      refine ⟨_, _, rfl, h1, fun p hp => ?_⟩
      rw [cutV_ints]
      exact q p (T3.put p _) (G.trans (Grow.put G.ok hp)) (Same.free G.ex hp) (G.ok.i_none hp) upd_same
end
end Lf

set_option Elab.async false
set_option linter.all false
set_option maxRecDepth 100000
set_option maxHeartbeats 2000000
set_option autoImplicit false
namespace Lf
open PySem L2
/-! ### == of what is made of numbers, by lists and tuples -/
mutual
def lay : D → Bool
  | .non => true
  | .bl _ => true
  | .int _ => true
  | .il _ => true
  | .scr _ => true
  | .lst ds => lays ds
  | .tup ds => lays ds
  | _ => false
def lays : List D → Bool
  | [] => true
  | d :: r => lay d && lays r
end
mutual
def dep : D → Nat
  | .il _ => 2
  | .scr _ => 2
  | .lst ds => deps ds + 1
  | .tup ds => deps ds + 1
  | _ => 1
def deps : List D → Nat
  | [] => 0
  | d :: r => Nat.max (dep d) (deps r)
end
mutual
theorem lay_plain : ∀ d : D, lay d = true → plain d = true
  | .non, _ => rfl
  | .bl _, _ => rfl
  | .int _, _ => rfl
  | .il _, _ => rfl
  | .scr _, _ => rfl
  | .lst ds, h => by rw [lay] at h; rw [plain]; exact lays_plain ds h
  | .tup ds, h => by rw [lay] at h; rw [plain]; exact lays_plain ds h
  | .str _, h => by cases h
  | .obj _ _, h => by cases h
  | .ptr _, h => by cases h
  | .dic, h => by cases h
theorem lays_plain : ∀ ds : List D, lays ds = true → plains ds = true
  | [], _ => rfl
  | d :: r, h => by
    rw [lays, Bool.and_eq_true] at h
    rw [plains, lay_plain d h.1, lays_plain r h.2]
    rfl
end
mutual
theorem lay_can : ∀ d : D, lay d = true → (py d).canLay0 = true
  | .non, _ => by rw [py, PyData.canLay0]
  | .bl _, _ => by rw [py, PyData.canLay0]
  | .int _, _ => by rw [py, PyData.canLay0]
  | .il ns, _ => by rw [py, PyData.canLay0]; exact canAll_ints ns
  | .scr ns, _ => by rw [py, PyData.canLay0]; exact canAll_ints ns
  | .lst ds, h => by rw [lay] at h; rw [py, PyData.canLay0]; exact lays_can ds h
  | .tup ds, h => by rw [lay] at h; rw [py, PyData.canLay0]; exact lays_can ds h
  | .str _, h => by cases h
  | .obj _ _, h => by cases h
  | .ptr _, h => by cases h
  | .dic, h => by cases h
theorem lays_can : ∀ ds : List D, lays ds = true → PyData.canLayAll0 (pys ds) = true
  | [], _ => by rw [pys, PyData.canLayAll0]
  | d :: r, h => by
    rw [lays, Bool.and_eq_true] at h
    rw [pys, PyData.canLayAll0, lay_can d h.1, lays_can r h.2]
    rfl
end
mutual
theorem dep_le : ∀ d : D, (py d).depth ≤ dep d
  | .non => by rw [py, PyData.depth]; exact Nat.zero_le _
  | .bl _ => by rw [py, PyData.depth]; exact Nat.zero_le _
  | .int _ => by rw [py, PyData.depth]; exact Nat.zero_le _
  | .il ns => by rw [py, PyData.depth, dep]; have := depth_ints ns; omega
  | .scr ns => by rw [py, PyData.depth, dep]; have := depth_ints ns; omega
  | .lst ds => by rw [py, PyData.depth, dep]; have := deps_le ds; omega
  | .tup ds => by rw [py, PyData.depth, dep]; have := deps_le ds; omega
  | .str _ => by rw [py, PyData.depth]; exact Nat.zero_le _
  | .obj _ _ => by rw [py, PyData.depth]; exact Nat.zero_le _
  | .ptr _ => by rw [py, PyData.depth]; exact Nat.zero_le _
  | .dic => by rw [py, PyData.depth]; exact Nat.zero_le _
theorem deps_le : ∀ ds : List D, PyData.depthAll (pys ds) ≤ deps ds
  | [] => by rw [pys, PyData.depthAll]; exact Nat.zero_le _
  | d :: r => by
    rw [pys, PyData.depthAll, deps]
    have h1 := dep_le d
    have h2 := deps_le r
    exact Nat.max_le.mpr ⟨Nat.le_trans h1 (Nat.le_max_left _ _), Nat.le_trans h2 (Nat.le_max_right _ _)⟩
end
theorem lay_shaped {d : D} (h : lay d = true) (hd : dep d ≤ 64) : SeqAt.shaped (py d) = true := by
  unfold SeqAt.shaped
  rw [lay_can d h, Bool.true_and]
  exact decide_eq_true (Nat.le_trans (dep_le d) hd)
theorem lays_map {α : Type} {g : α → D} (h : ∀ x, lay (g x) = true) : ∀ xs : List α, lays (xs.map g) = true
  | [] => rfl
  | x :: r => by rw [List.map_cons, lays, h x, lays_map h r]; rfl
theorem lay_map {α : Type} {g : α → D} (h : ∀ x, lay (g x) = true) (xs : List α) : lay (.lst (xs.map g)) = true := by rw [lay]; exact lays_map h xs
theorem deps_map {α : Type} {g : α → D} {n : Nat} (h : ∀ x, dep (g x) ≤ n) : ∀ xs : List α, deps (xs.map g) ≤ n
  | [] => Nat.zero_le _
  | x :: r => by rw [List.map_cons, deps]; exact Nat.max_le.mpr ⟨h x, deps_map h r⟩
theorem dep_map {α : Type} {g : α → D} {n : Nat} (h : ∀ x, dep (g x) ≤ n) (xs : List α) : dep (.lst (xs.map g)) ≤ n + 1 := by rw [dep]; exact Nat.succ_le_succ (deps_map h xs)
/-- a list of lists of numbers; of pairs -/
def ils (xss : List (List Int)) : D := .lst (xss.map D.il)
def prs (ps : List (Int × Int)) : D := .lst (ps.map fun p => D.tup [.int p.1, .int p.2])
theorem lay_ils (xss : List (List Int)) : lay (ils xss) = true := lay_map (fun _ => rfl) xss
theorem lay_prs (ps : List (Int × Int)) : lay (prs ps) = true := lay_map (fun _ => rfl) ps
theorem dep_ils (xss : List (List Int)) : dep (ils xss) ≤ 64 := Nat.le_trans (dep_map (n := 2) (fun _ => Nat.le_refl _) xss) (by decide)
theorem dep_prs (ps : List (Int × Int)) : dep (prs ps) ≤ 64 := Nat.le_trans (dep_map (n := 2) (fun _ => Nat.le_refl _) ps) (by decide)
theorem eqD_refl {d : D} (h : lay d = true) : eqD d d = true := by
  unfold eqD
  exact PySem.SeqAt.eqv_refl _ (lay_can d h)
theorem eqD_lst (a b : D) (as bs : List D) : eqD (.lst (a :: as)) (.lst (b :: bs)) = (eqD a b && eqD (.lst as) (.lst bs)) := by
  unfold eqD
  rw [py, py, pys, pys, PyData.eqv, PyData.eqvAll, py, py, PyData.eqv]
theorem eqD_nil : eqD (.lst []) (.lst []) = true := by
  unfold eqD
  rw [py, pys, PyData.eqv, PyData.eqvAll]
theorem eqD_nil1 (a : D) (as : List D) : eqD (.lst (a :: as)) (.lst []) = false := by
  unfold eqD
  rw [py, py, pys, pys, PyData.eqv, PyData.eqvAll]
theorem eqD_nil2 (a : D) (as : List D) : eqD (.lst []) (.lst (a :: as)) = false := by
  unfold eqD
  rw [py, py, pys, pys, PyData.eqv, PyData.eqvAll]
theorem eqD_map {α : Type} [DecidableEq α] {g : α → D} (h : ∀ x y, eqD (g x) (g y) = decide (x = y)) : ∀ xs ys : List α, eqD (.lst (xs.map g)) (.lst (ys.map g)) = decide (xs = ys)
  | [], [] => by rw [List.map_nil, eqD_nil]; rfl
  | x :: xs, [] => by rw [List.map_cons, List.map_nil, eqD_nil1]; rfl
  | [], y :: ys => by rw [List.map_cons, List.map_nil, eqD_nil2]; rfl
  | x :: xs, y :: ys => by
    rw [List.map_cons, List.map_cons, eqD_lst, eqD_map h xs ys, h]
    by_cases e : x = y
    · subst e; simp
    · simp [e]
theorem eqD_ils (xs ys : List (List Int)) : eqD (ils xs) (ils ys) = decide (xs = ys) := eqD_map eqD_il xs ys
theorem eqD_pair (a b c d : Int) : eqD (.tup [.int a, .int b]) (.tup [.int c, .int d]) = decide ((a, b) = (c, d)) := by
  unfold eqD
  rw [py, py, pys, pys, pys, pys, pys, pys, py, py, py, py, PyData.eqv, PyData.eqvAll, PyData.eqvAll, PyData.eqvAll, PyData.eqv, PyData.eqv]
  by_cases h : a = c
  · by_cases h2 : b = d
    · subst h; subst h2; simp
    · simp [h2]
  · simp [h]
theorem eqD_prs (xs ys : List (Int × Int)) : eqD (prs xs) (prs ys) = decide (xs = ys) := eqD_map (fun x y => eqD_pair x.1 x.2 y.1 y.2) xs ys
section
variable {X : Cx} {e a b c : Expr} {es : List Expr} {ρ : PEnv} {d d1 d2 d3 : D} {l la lb lc : Lv} {pos : Pos}
theorem jc_eqG (hu : X.A.units + 64 < cLine) (ha : JE X la a ρ d1) (hb : JE X lb b ρ d2) (p1 : lay d1 = true := by rfl) (p2 : lay d2 = true := by rfl) (h1 : dep d1 ≤ 64 := by first | decide | exact of_decide_eq_true rfl) (h2 : dep d2 ≤ 64 := by first | decide | exact of_decide_eq_true rfl) : JC X .Eq a b ρ (eqD d1 d2) :=
  jc_eqD hu ha hb (lay_plain _ p1) (lay_plain _ p2) (lay_shaped p1 h1) (lay_shaped p2 h2)
theorem jc_neG (hu : X.A.units + 64 < cLine) (ha : JE X la a ρ d1) (hb : JE X lb b ρ d2) (p1 : lay d1 = true := by rfl) (p2 : lay d2 = true := by rfl) (h1 : dep d1 ≤ 64 := by first | decide | exact of_decide_eq_true rfl) (h2 : dep d2 ≤ 64 := by first | decide | exact of_decide_eq_true rfl) : JC X .NotEq a b ρ (!eqD d1 d2) :=
  jc_neD hu ha hb (lay_plain _ p1) (lay_plain _ p2) (lay_shaped p1 h1) (lay_shaped p2 h2)
end
end Lf

set_option Elab.async false
set_option linter.all false
set_option maxRecDepth 100000
set_option maxHeartbeats 2000000
set_option autoImplicit false
namespace Lf
open PySem L2
/-! ### nodes by their places -/
def root : G → D
  | .d d => d
  | .li b _ => .ptr b
  | .ls b _ => .ptr b
  | .ob b _ _ _ => .ptr b
def G.at : List Nat → G → Option G
  | [], g => some g
  | i :: p, .ls _ gs => match gs[i]? with | some g => G.at p g | none => none
  | i :: p, .ob _ _ _ gs => match gs[i]? with | some g => G.at p g | none => none
  | _ :: _, _ => none
def G.put : List Nat → G → G → G
  | [], x, _ => x
  | i :: p, x, .ls b gs => match gs[i]? with | some g => .ls b (gs.set i (G.put p x g)) | none => .ls b gs
  | i :: p, x, .ob b C fs gs => match gs[i]? with | some g => .ob b C fs (gs.set i (G.put p x g)) | none => .ob b C fs gs
  | _ :: _, _, g => g
section
variable {K : PySem.W.Frag} {Hs H : Hp}
theorem AtGs.get : ∀ {vs : List V} {gs : List G}, AtGs K Hs H vs gs → ∀ {i : Nat} {g : G}, gs[i]? = some g → ∃ v, vs[i]? = some v ∧ AtG K Hs H v g
  | _, _, .nil, i, g, e => by simp at e
  | _, _, .cons h r, 0, g, e => by
    simp at e
    subst e
    exact ⟨_, rfl, h⟩
  | _, _, .cons h r, i + 1, g, e => by
    obtain ⟨v, h1, h2⟩ := r.get (i := i) (g := g) (by simpa using e)
    exact ⟨v, by simpa using h1, h2⟩
theorem AtG.at : ∀ (p : List Nat) {v : V} {g y : G}, AtG K Hs H v g → G.at p g = some y → ∃ w, AtG K Hs H w y
  | [], v, g, y, h, e => by cases e; exact ⟨v, h⟩
  | i :: p, _, _, y, .d _, e => by cases e
  | i :: p, _, _, y, .li _, e => by cases e
  | i :: p, _, _, y, .ls (gs := gs) h r, e => by
    cases q : gs[i]? with
    | none => simp [G.at, q] at e
    | some g1 =>
      obtain ⟨w, _, h2⟩ := r.get q
      simp only [G.at, q] at e
      exact AtG.at p h2 e
  | i :: p, _, _, y, .ob (gs := gs) h l r, e => by
    cases q : gs[i]? with
    | none => simp [G.at, q] at e
    | some g1 =>
      obtain ⟨w, _, h2⟩ := r.get q
      simp only [G.at, q] at e
      exact AtG.at p h2 e
theorem AtG.root {v : V} {g : G} (h : AtG K Hs H v g) : Rp K Hs v (Lf.root g) := by
  cases h with
  | d r => exact r
  | li _ => exact .ptr _
  | ls _ _ => exact .ptr _
  | ob _ _ _ => exact .ptr _
theorem AtGs.roots : ∀ {vs : List V} {gs : List G}, AtGs K Hs H vs gs → RpAll K Hs vs (gs.map Lf.root)
  | _, _, .nil => .nil
  | _, _, .cons h r => .cons h.root r.roots
theorem mem_addss : ∀ {gs : List G} {i : Nat} {g : G} {b : Addr}, gs[i]? = some g → b ∈ adds g → b ∈ addss gs
  | [], i, g, b, e, _ => by simp at e
  | x :: r, 0, g, b, e, m => by
    simp at e
    subst e
    rw [addss]
    exact List.mem_append_left _ m
  | x :: r, i + 1, g, b, e, m => by
    rw [addss]
    exact List.mem_append_right _ (mem_addss (i := i) (by simpa using e) m)
theorem AtGs.putAt {b : Addr} {o : HO} : ∀ (i : Nat) {vs : List V} {gs : List G} {g1 x1 : G}, AtGs K Hs H vs gs → (addss gs).Nodup → gs[i]? = some g1 → b ∈ adds g1 → (∀ w, AtG K Hs H w g1 → AtG K Hs (upd H b o) w x1) → adds x1 = adds g1 →
    AtGs K Hs (upd H b o) vs (gs.set i x1) ∧ addss (gs.set i x1) = addss gs
  | _, _, _, g1, x1, .nil, _, e, _, _, _ => by simp at e
  | 0, _, _, g1, x1, .cons (g := g) (gs := r0) h r, nd, e, m, k, ea => by
    simp at e
    subst e
    rw [addss] at nd
    have n2 := (List.nodup_append.mp nd).2.2
    exact ⟨.cons (k _ h) (r.off fun z => n2 b m b z rfl), by rw [List.set_cons_zero, addss, addss, ea]⟩
  | i + 1, _, _, g1, x1, .cons (g := g) (gs := r0) h r, nd, e, m, k, ea => by
    rw [addss] at nd
    have n2 := List.nodup_append.mp nd
    have e' : r0[i]? = some g1 := by simpa using e
    obtain ⟨h1, h2⟩ := AtGs.putAt i r n2.2.1 e' m k ea
    exact ⟨.cons (h.off fun z => n2.2.2 b z b (mem_addss e' m) rfl) h1, by rw [List.set_cons_succ, addss, addss, h2]⟩
theorem at_adds : ∀ (p : List Nat) {g y : G} {b : Addr}, G.at p g = some y → b ∈ adds y → b ∈ adds g
  | [], g, y, b, e, m => by cases e; exact m
  | i :: p, .d _, y, b, e, m => by cases e
  | i :: p, .li _ _, y, b, e, m => by cases e
  | i :: p, .ls c gs, y, b, e, m => by
    cases q : gs[i]? with
    | none => simp [G.at, q] at e
    | some g1 =>
      simp only [G.at, q] at e
      rw [adds]
      exact List.mem_cons_of_mem _ (mem_addss q (at_adds p e m))
  | i :: p, .ob c C fs gs, y, b, e, m => by
    cases q : gs[i]? with
    | none => simp [G.at, q] at e
    | some g1 =>
      simp only [G.at, q] at e
      rw [adds]
      exact List.mem_cons_of_mem _ (mem_addss q (at_adds p e m))
theorem nodup_get : ∀ {gs : List G} {i : Nat} {g : G}, gs[i]? = some g → (addss gs).Nodup → (adds g).Nodup
  | [], i, g, e, _ => by simp at e
  | x :: r, 0, g, e, nd => by
    simp at e
    subst e
    rw [addss] at nd
    exact (List.nodup_append.mp nd).1
  | x :: r, i + 1, g, e, nd => by
    rw [addss] at nd
    exact nodup_get (i := i) (by simpa using e) (List.nodup_append.mp nd).2.1
theorem AtG.putAt {b : Addr} {o : HO} {y x : G} (hx : ∀ w, AtG K Hs H w y → AtG K Hs (upd H b o) w x) (ea : adds x = adds y) (m : b ∈ adds y) : ∀ (p : List Nat) {v : V} {g : G}, AtG K Hs H v g → (adds g).Nodup → G.at p g = some y →
    AtG K Hs (upd H b o) v (G.put p x g) ∧ adds (G.put p x g) = adds g
  | [], v, g, h, nd, e => by cases e; exact ⟨hx v h, ea⟩
  | i :: p, _, _, .d _, _, e => by cases e
  | i :: p, _, _, .li _, _, e => by cases e
  | i :: p, _, _, .ls (b := c) (gs := gs) h r, nd, e => by
    cases q : gs[i]? with
    | none => simp [G.at, q] at e
    | some g1 =>
      simp only [G.at, q] at e
      simp only [G.put, q]
      rw [adds] at nd
      have n2 := List.nodup_cons.mp nd
      have mb := at_adds p e m
      have hc : c ≠ b := fun z => n2.1 (by rw [z]; exact mem_addss q mb)
      have k : ∀ w, AtG K Hs H w g1 → AtG K Hs (upd H b o) w (G.put p x g1) ∧ adds (G.put p x g1) = adds g1 := fun w hw => AtG.putAt hx ea m p hw (nodup_get q n2.2) e
      obtain ⟨w0, _, hw0⟩ := r.get q
      obtain ⟨h1, h2⟩ := AtGs.putAt i r n2.2 q mb (fun w hw => (k w hw).1) (k w0 hw0).2
      exact ⟨.ls (by rw [upd_ne hc]; exact h) h1, by rw [adds, adds, h2]⟩
  | i :: p, _, _, .ob (b := c) (gs := gs) h l r, nd, e => by
    cases q : gs[i]? with
    | none => simp [G.at, q] at e
    | some g1 =>
      simp only [G.at, q] at e
      simp only [G.put, q]
      rw [adds] at nd
      have n2 := List.nodup_cons.mp nd
      have mb := at_adds p e m
      have hc : c ≠ b := fun z => n2.1 (by rw [z]; exact mem_addss q mb)
      have k : ∀ w, AtG K Hs H w g1 → AtG K Hs (upd H b o) w (G.put p x g1) ∧ adds (G.put p x g1) = adds g1 := fun w hw => AtG.putAt hx ea m p hw (nodup_get q n2.2) e
      obtain ⟨w0, _, hw0⟩ := r.get q
      obtain ⟨h1, h2⟩ := AtGs.putAt i r n2.2 q mb (fun w hw => (k w hw).1) (k w0 hw0).2
      exact ⟨.ob (by rw [upd_ne hc]; exact h) l h1, by rw [adds, adds, h2]⟩
end
/-! ### new trees -/
def W3.keep (T : W3) (A : List Addr) : W3 := ⟨uni T.i (restr A T.h), uni T.n (restr A T.h), T.h⟩
theorem Grow.keep {T T' : W3} (g : Grow T T') {A : List Addr} (hA : ∀ b, b ∈ A → T.h b = none ∧ T'.i b = none) : Grow T (T'.keep A) := by
  have dj : ∀ a, restr A T'.h a ≠ none → T'.i a = none := fun a h => (hA a (restr_dom h)).2
  have fresh : ∀ {B : Hp} (a : Addr), B a = none → T.h a ≠ none → uni B (restr A T'.h) a = none := fun {B} a q r => by
    rw [uni_right q]
    cases e : restr A T'.h a with
    | none => rfl
    | some u => exact absurd (hA a (restr_dom (by rw [e]; intro z; cases z))).1 r
  exact ⟨⟨uni_mono g.ok.ni dj, uni_to g.ok.ih restr_same⟩, g.ex, g.xi.trans uni_l, g.xn.trans uni_l, fun a q r => fresh a (g.fi a q r) r, fun a q r => fresh a (g.fn a q r) r⟩
theorem keep_n {T : W3} (o : Ok T) {A : List Addr} {b : Addr} (m : b ∈ A) (h : T.i b = none) : (T.keep A).n b = T.h b := by
  show uni T.n (restr A T.h) b = T.h b
  rw [uni_right (o.n_none' h), restr_in m]
/-- e comes to a new tree that is d, its leaves held at l -/
def JU (X : Cx) (l : Lv) (e : Expr) (ρ : PEnv) (d : D) : Prop :=
  ∀ (T : W3) (σ : L2.St) (Q : VK), Fr X.K T σ ρ → (∀ v g T', Grow T T' → erase g = d → AtG X.K (T'.at l) T'.h v g → (∀ b, b ∈ adds g → T.h b = none ∧ T'.i b = none) → Nd g → Q v T'.h) → wE X e σ T.h Q
theorem erases_d : ∀ ds : List D, erases (ds.map G.d) = ds
  | [] => rfl
  | d :: r => by rw [List.map_cons, erases, erase, erases_d r]
theorem addss_d : ∀ ds : List D, addss (ds.map G.d) = []
  | [] => rfl
  | d :: r => by rw [List.map_cons, addss, adds, addss_d r]; rfl
theorem okGs_d : ∀ ds : List D, okGs (ds.map G.d) = ds.all leafD
  | [] => rfl
  | d :: r => by rw [List.map_cons, okGs, okG, okGs_d r]; rfl
theorem RpAll.gs {K : PySem.W.Frag} {Hs H : Hp} : ∀ {vs : List V} {ds : List D}, RpAll K Hs vs ds → AtGs K Hs H vs (ds.map G.d)
  | _, _, .nil => .nil
  | _, _, .cons h r => .cons (.d h) r.gs
theorem erases_append : ∀ (gs hs : List G), erases (gs ++ hs) = erases gs ++ erases hs
  | [], _ => rfl
  | g :: r, hs => by rw [List.cons_append, erases, erases, erases_append r hs]; rfl
theorem addss_append : ∀ (gs hs : List G), addss (gs ++ hs) = addss gs ++ addss hs
  | [], _ => rfl
  | g :: r, hs => by rw [List.cons_append, addss, addss, addss_append r hs, List.append_assoc]
theorem erases_length : ∀ gs : List G, (erases gs).length = gs.length
  | [] => rfl
  | g :: r => by rw [erases, List.length_cons, List.length_cons, erases_length r]
theorem AtGs.append {K : PySem.W.Frag} {Hs H : Hp} : ∀ {vs ws : List V} {gs hs : List G}, AtGs K Hs H vs gs → AtGs K Hs H ws hs → AtGs K Hs H (vs ++ ws) (gs ++ hs)
  | _, _, _, _, .nil, r => r
  | _, _, _, _, .cons h r, r' => .cons h (r.append r')
section
variable {X : Cx} {e a b c : Expr} {es : List Expr} {ρ ρ1 : PEnv} {d d1 d2 d3 : D} {l la lb lc : Lv} {pos p p2 : Pos} {i j k : Int} {ns ms : List Int} {ds fs : List D} {kt : Nat} {x y z : Str} {st : Stmt} {sts : List Stmt} {P : PEnds}
theorem JOI.ju (h : JOI X e ρ ns) : JU X .frs e ρ (.il ns) := fun T σ Q F q => h T σ Q F fun a T' g h0 hi hh =>
  q (.ref a) (.li a ns) T' g rfl (.li hh) (fun b m => by rw [adds, List.mem_singleton] at m; subst m; exact ⟨h0, hi⟩) ⟨by rw [adds]; exact List.nodup_cons.mpr ⟨List.not_mem_nil, List.nodup_nil⟩, rfl⟩
theorem JO.ju (h : JO X l e ρ ds) (hd : ds.all leafD = true) : JU X l e ρ (.lst ds) := fun T σ Q F q => h T σ Q F fun a vs T' g h0 hi hh r =>
  q (.ref a) (.ls a (ds.map G.d)) T' g (by rw [erase, erases_d]) (.ls hh r.gs) (fun b m => by rw [adds, addss_d, List.mem_singleton] at m; subst m; exact ⟨h0, hi⟩) ⟨by rw [adds, addss_d]; exact List.nodup_cons.mpr ⟨List.not_mem_nil, List.nodup_nil⟩, by rw [okG, okGs_d]; exact hd⟩
theorem JU.je (h : JU X .frs e ρ d) : JE X .frs e ρ d := fun T σ Q F q => h T σ Q F fun v g T' G e r m nd => by
  subst e
  exact q v (T'.keep (adds g)) (G.keep m) (r.rp (H2 := (T'.keep (adds g)).n) uni_l fun b mb => keep_n G.ok mb (m b mb).2)
theorem JU.eq (h : JU X l e ρ d) (q : d = d1) : JU X l e ρ d1 := by rw [← q]; exact h
theorem js_setU (n : Nat) {p' : Pos} (he : JU X l e ρ d) (h : ∀ g, erase g = d → okG g = true → P.nx (ρ.set n (some (.tr l g)))) (hl : l ≠ .full := by decide) (hN : X.N.Nodup) (hi : X.N[n]? = some x := by rfl) (hx : Loc X.env.scope x := by first | exact Or.inl rfl | exact Or.inr rfl)
    (hs : swapsWith e (some (.Name x p')) pos.line X.env = pure false := by exact sw_ns rfl) (hf : X.fn x = true ∨ X.env.scope.names.lookup x = some .local := by exact Or.inl rfl) : JS X (.Assign [.Name x p'] e pos) P ρ :=
  JS.of (ps_set (i := n) hN hi hx pe_w hs hf) fun T σ D F m => he T σ _ F fun v g T' G eg r q nd =>
    m.nx _ _ T' G.w ((F.grow G).setTr ⟨hl, r, fun b mb => (q b mb).2, nd.nd⟩ fun b mb => F.fresh (q b mb).1) (h g eg nd.ok)
theorem js_retU (he : JU X .frs e ρ d) (h : P.ru d) : JS X (.Return (some e) pos) P ρ :=
  JS.of (ps_ret pe_w) fun T σ D F m => he T σ _ F fun v g T' G eg r q nd => m.ru g v T' G.w (by rw [eg]; exact h) r (fun b mb => (q b mb).2) nd

/-- an own list of ints is given back -/
theorem js_retO (n : Nat) {p' : Pos} (hr : ρ[n]? = some (some (.ownI ns))) (h : P.ru (.il ns)) (hN : X.N[n]? = some x := by rfl) (hv : Vis X.env.scope x := by first | exact Or.inl rfl | exact Or.inr (Or.inl rfl) | exact Or.inr (Or.inr rfl)) (hd : (x == ("__debug__" : Str)) = false := by decide)
    (hcd : (x == ("__classdict__" : Str)) = false := by decide) : JS X (.Return (some (.Name x p')) pos) P ρ :=
  JS.of (ps_ret (pe_var hN hv hd hcd)) fun T σ D F m => by
    obtain ⟨v, h1, a, rfl, h2, h3⟩ := F.val n _ hr
    exact ⟨_, h1, m.ru (.li a ns) _ T (Gw.refl F.ok) h (.li h2) (fun b mb => by rw [adds, List.mem_singleton] at mb; subst mb; exact h3) ⟨by rw [adds]; exact List.nodup_cons.mpr ⟨List.not_mem_nil, List.nodup_nil⟩, rfl⟩⟩
/-- .. an own list of constants and tuples -/
theorem js_retOD (n : Nat) {p' : Pos} (hr : ρ[n]? = some (some (.own .frs ds))) (h : P.ru (.lst ds)) (hl : ds.all leafD = true) (hN : X.N[n]? = some x := by rfl) (hv : Vis X.env.scope x := by first | exact Or.inl rfl | exact Or.inr (Or.inl rfl) | exact Or.inr (Or.inr rfl)) (hd : (x == ("__debug__" : Str)) = false := by decide)
    (hcd : (x == ("__classdict__" : Str)) = false := by decide) : JS X (.Return (some (.Name x p')) pos) P ρ :=
  JS.of (ps_ret (pe_var hN hv hd hcd)) fun T σ D F m => by
    obtain ⟨v, h1, _, a, vs, rfl, h2, h3, rr⟩ := F.val n _ hr
    exact ⟨_, h1, m.ru (.ls a (ds.map G.d)) _ T (Gw.refl F.ok) (by rw [erase, erases_d]; exact h) (.ls h2 rr.gs) (fun b mb => by rw [adds, addss_d, List.mem_singleton] at mb; subst mb; exact h3)
      ⟨by rw [adds, addss_d]; exact List.nodup_cons.mpr ⟨List.not_mem_nil, List.nodup_nil⟩, by rw [okG, okGs_d]; exact hl⟩⟩
/-- .. a tree -/
theorem js_retT (n : Nat) {p' : Pos} {g : G} (hr : ρ[n]? = some (some (.tr .frs g))) (h : P.ru (erase g)) (ho : okG g = true) (hN : X.N[n]? = some x := by rfl) (hv : Vis X.env.scope x := by first | exact Or.inl rfl | exact Or.inr (Or.inl rfl) | exact Or.inr (Or.inr rfl)) (hd : (x == ("__debug__" : Str)) = false := by decide)
    (hcd : (x == ("__classdict__" : Str)) = false := by decide) : JS X (.Return (some (.Name x p')) pos) P ρ :=
  JS.of (ps_ret (pe_var hN hv hd hcd)) fun T σ D F m => by
    obtain ⟨v, h1, _, rt, hi, nd⟩ := F.val n _ hr
    exact ⟨_, h1, m.ru g _ T (Gw.refl F.ok) h rt hi ⟨nd, ho⟩⟩

/-! ### defs that make a new tree -/
def spU (K : PySem.W.Frag) (pre : List D → Prop) (G : List D → D) : Sp := fun vs H Q _ => ∃ ds, RpAll K H vs ds ∧ pre ds ∧
  ∀ v g H' Hn, Same H H' → Same Hn H' → (∀ a, Hn a ≠ none → H a = none) → erase g = G ds → AtG K Hn H' v g → (∀ b, b ∈ adds g → H b = none ∧ Hn b = none) → Nd g → Q v H'
theorem spU_of {K : PySem.W.Frag} {pre : List D → Prop} {G : List D → D} (vs : List V) (H : Hp) (Q : VK) (E : XK) (h : spF K pre G vs H Q E) : spU K pre G vs H Q E := by
  obtain ⟨ds, r, hp, q⟩ := h
  refine ⟨ds, r, hp, fun v g H' Hn s1 s2 dj eg rg fr nd => q v H' (uni Hn (restr (adds g) H')) s1 (uni_to s2 restr_same) (fun a ha => ?_) ?_⟩
  · cases e : Hn a with
    | some o => exact dj a (by rw [e]; intro z; cases z)
    | none =>
      rw [uni_right e] at ha
      exact (fr a (restr_dom ha)).1
  · rw [← eg]
    exact rg.rp uni_l fun b mb => by rw [uni_right (fr b mb).2, restr_in mb]
structure CalleeU (P : Program) (w : World) (K : PySem.W.Frag) (mg : Str → Option Value) (base : Heap) (k : Nat) (x : Str) (pre : List D → Prop) (G : List D → D) : Prop where
  ex : ∃ (f : Addr) (fd : FuncData) (ps : List Str), FnOk P w K mg base CX0 k f fd ps (spU K pre G) ∧ mg x = some (.ref f) ∧ PySem.W.keepIn K (.ref f) = true ∧ Binds K fd ps []
theorem CalleeU.callee {P : Program} {w : World} {K : PySem.W.Frag} {mg : Str → Option Value} {base : Heap} {k : Nat} {x : Str} {pre : List D → Prop} {G : List D → D} (C : CalleeU P w K mg base k x pre G) : Callee P w K mg base k x pre G := by
  obtain ⟨f, fd, ps, F, h⟩ := C.ex
  exact ⟨f, fd, ps, F.imp spU_of, h⟩
theorem ju_call {m n : Nat} {pre : List D → Prop} {G : List D → D} (C : CalleeU X.prog X.w X.K X.mg X.base m x pre G) (hr : Room n X.A) (ha : JA X .full (e :: es) ρ ds) (hp : pre ds) (hq : G ds = d := by rfl) (hk : m ≤ n := by decide) (hg : Gl X x := by rfl) (hdb : (x == ("__debug__" : Str)) = false := by decide)
    (he : starEach (e :: es) X.env = (false, eval e X.env) :: starEach es X.env := by exact star_c rfl) (hpl : (backTo pos (starEach es X.env)).any (·.1) = false := by exact back_ns rfl) : JU X .frs (.Call (.Name x p) (e :: es) [] pos) ρ d := by
  subst hq
  obtain ⟨f, fd, ps, F, hm, hkp, hb⟩ := C.ex
  intro T σ Q Fm q pins s I
  refine (pe_call F (hr.mono hk) hg hm hkp hb .nil pass0 pa_w hdb he hpl).run pins s σ T.h Q I (ha T σ _ Fm fun vs T1 g1 r1 => ?_)
  refine ⟨ds, by rw [List.append_nil]; exact r1, hp, fun v g H' Hn h1 h2 dj eg rg fr nd => q v g ⟨uni T1.i Hn, uni T1.n Hn, H'⟩ (g1.trans (Grow.called g1.ok h1 h2 dj)) eg (rg.mono (uni_r fun a h => g1.ok.n_none (dj a h)) (Same.refl _)) (fun b mb => ⟨Same.free g1.ex (fr b mb).1, ?_⟩) nd⟩
  show uni T1.i Hn b = none
  rw [uni_right (g1.ok.i_none (fr b mb).1)]
  exact (fr b mb).2
theorem fn_okU {P : Program} {w : World} {K : PySem.W.Frag} {mg : Str → Option Value} {base : Heap} {x qual : Str} {st : Stmt} {f : Addr} {fd : FuncData} {N ps : List Str} {k : Nat} {pre : List D → Prop} {G : List D → D} (F : Fun K x qual st f fd) (S : FnScope N ps (defScope st))
    (hpre : ∀ ds, pre ds → ds.length = ps.length)
    (body : ∀ (cdv : Value) (A : Around) (outer : List Env) (s : Shared) (H : Hp) (E : XK), Room k (A.deeper (PyProof.Rows.envOfC qual (defScope st) s.heap.objs.size f cdv)) → ∀ ds, pre ds →
      JSs (cxOf CX0 P w K mg base N qual (defScope st) f cdv A outer s H E).nox (defBody st) { nx := fun _ => False, rt := fun _ => False, ru := fun d => d = G ds } (startE N.length ds)) :
    FnOk P w K mg base CX0 (k + 1) f fd ps (spU K pre G) := by
  refine F.ok S (fun vs H Q E ⟨ds, r, hp, _⟩ => by rw [r.length]; exact hpre ds hp) fun cdv A outer s H vs Q E hr ⟨ds, r, hp, q⟩ => ?_
  have hlen : ds.length ≤ N.length := by
    rw [hpre ds hp]
    have := congrArg List.length S.pre
    rw [List.length_take] at this
    omega
  refine ⟨_, pss_w, body cdv A outer s H E hr ds hp ⟨H, fun _ => none, H⟩ _ _ (fr_start r hlen) ⟨fun ρ σ T' g F' z => z.elim, fun d v T' g z => z.elim, fun ρ σ T' g F' z => z.elim, fun ρ σ T' g F' z => z.elim, fun g v T' gw eg rg fr nd => ?_, fun _ _ _ _ _ _ _ z => z.elim⟩⟩
  have fb : ∀ b, b ∈ adds g → H b = none := fun b mb => by
    cases z : H b with
    | none => rfl
    | some o =>
      have z2 := gw.xi b o z
      rw [fr b mb] at z2
      cases z2
  refine q v g T'.h T'.n (gw.xi.trans gw.ok.ih) (gw.ok.ni.trans gw.ok.ih) (fun a h => ?_) eg rg (fun b mb => ⟨fb b mb, gw.ok.n_none' (fr b mb)⟩) nd
  cases z : H a with
  | none => rfl
  | some o => exact absurd (gw.fn a rfl (by show H a ≠ none; rw [z]; intro y; cases y) (by show H a ≠ none; rw [z]; intro y; cases y)) h
end
end Lf

set_option Elab.async false
set_option linter.all false
set_option maxRecDepth 100000
set_option maxHeartbeats 2000000
set_option autoImplicit false
namespace Lf
open PySem L2
/-! ### shapes of trees -/
theorem okG_il {g : G} {ns : List Int} (h : erase g = .il ns) (o : okG g = true) : ∃ b, g = .li b ns := by
  cases g with
  | d d => rw [erase] at h; subst h; cases o
  | li b m => rw [erase] at h; cases h; exact ⟨b, rfl⟩
  | ls b gs => rw [erase] at h; cases h
  | ob b C fs gs => rw [erase] at h; cases h
theorem okG_lst {g : G} {ds : List D} (h : erase g = .lst ds) (o : okG g = true) : ∃ b gs, g = .ls b gs ∧ erases gs = ds ∧ okGs gs = true := by
  cases g with
  | d d => rw [erase] at h; subst h; cases o
  | li b m => rw [erase] at h; cases h
  | ls b gs => rw [erase] at h; cases h; rw [okG] at o; exact ⟨b, gs, rfl, rfl, o⟩
  | ob b C fs gs => rw [erase] at h; cases h
theorem okG_obj {g : G} {C : Addr} {fs : List (Str × D)} (h : erase g = .obj C fs) (o : okG g = true) : ∃ b gs, g = .ob b C (fs.map (·.1)) gs ∧ erases gs = fs.map (·.2) ∧ okGs gs = true := by
  cases g with
  | d d => rw [erase] at h; subst h; cases o
  | li b m => rw [erase] at h; cases h
  | ls b gs => rw [erase] at h; cases h
  | ob b C' ns gs =>
    rw [erase] at h
    cases h
    rw [okG, Bool.and_eq_true] at o
    have e : ns.length = (erases gs).length := by rw [erases_length]; exact eq_of_beq o.1
    refine ⟨b, gs, ?_, ?_, o.2⟩
    · rw [List.map_fst_zip (Nat.le_of_eq e)]
    · rw [List.map_snd_zip (Nat.le_of_eq e.symm)]
theorem okGs_cons {gs : List G} {d : D} {ds : List D} (h : erases gs = d :: ds) (o : okGs gs = true) : ∃ g r, gs = g :: r ∧ erase g = d ∧ okG g = true ∧ erases r = ds ∧ okGs r = true := by
  cases gs with
  | nil => rw [erases] at h; cases h
  | cons g r =>
    rw [erases] at h
    cases h
    rw [okGs, Bool.and_eq_true] at o
    exact ⟨g, r, rfl, rfl, o.1, rfl, o.2⟩
theorem okGs_nil {gs : List G} (h : erases gs = []) : gs = [] := by
  cases gs with
  | nil => rfl
  | cons g r => rw [erases] at h; cases h
/-! no tuple within -/
mutual
def bareD : D → Bool
  | .tup _ => false
  | .lst ds => bareDs ds
  | .obj _ fs => bareFs fs
  | _ => true
def bareDs : List D → Bool
  | [] => true
  | d :: r => bareD d && bareDs r
def bareFs : List (Str × D) → Bool
  | [] => true
  | (_, d) :: r => bareD d && bareFs r
end
theorem bareFs_zip : ∀ {fs : List Str} {ds : List D}, fs.length = ds.length → bareFs (fs.zip ds) = bareDs ds
  | [], [], _ => rfl
  | f :: fs, d :: ds, h => by rw [List.zip_cons_cons, bareFs, bareDs, bareFs_zip (Nat.succ.inj h)]
  | [], _ :: _, h => by cases h
  | _ :: _, [], h => by cases h
mutual
theorem AtG.bare {K : PySem.W.Frag} {Hs Ht H : Hp} : ∀ {v : V} {g : G}, AtG K Hs H v g → okG g = true → bareD (erase g) = true → AtG K Ht H v g
  | _, _, .d (d := d) r, o, b => .d (r.scal (by
      rw [okG] at o
      rw [erase] at b
      cases d <;> first | exact o | cases b))
  | _, _, .li h, _, _ => .li h
  | _, _, .ls h r, o, b => by
    rw [okG] at o
    rw [erase, bareD] at b
    exact .ls h (AtGs.bare r o b)
  | _, _, .ob h l r, o, b => by
    rw [okG, Bool.and_eq_true] at o
    rw [erase, bareD, bareFs_zip (by rw [erases_length]; exact eq_of_beq o.1)] at b
    exact .ob h l (AtGs.bare r o.2 b)
theorem AtGs.bare {K : PySem.W.Frag} {Hs Ht H : Hp} : ∀ {vs : List V} {gs : List G}, AtGs K Hs H vs gs → okGs gs = true → bareDs (erases gs) = true → AtGs K Ht H vs gs
  | _, _, .nil, _, _ => .nil
  | _, _, .cons h r, o, b => by
    rw [okGs, Bool.and_eq_true] at o
    rw [erases, bareDs, Bool.and_eq_true] at b
    exact .cons (h.bare o.1 b.1) (AtGs.bare r o.2 b.2)
end
/-! ### classes made by their __init__ -/
def spIU (K : PySem.W.Frag) (C : Addr) (pre : List D → Prop) (G : List D → D) : Sp := fun vs H Q _ => ∃ (x dx : Addr) (us : List V) (ds : List D) (H0 : Hp), vs = .ref x :: us ∧ H x = some (.ins C dx []) ∧ H0 x = none ∧ Same H0 H ∧ RpAll K H0 us ds ∧ pre ds ∧
  ∀ g H' Hm, (∀ b o, H b = some o → b ≠ x → H' b = some o) → Same H0 Hm → Same Hm H' → (∀ a, H0 a = none → H a ≠ none → Hm a = none) → AtG K Hm H' (.ref x) g → erase g = G ds → (∀ b, b ∈ adds g → b ≠ x → H b = none) → (∀ b, b ∈ adds g → Hm b = none) → Nd g → Q .non H'
structure MakerU (P : Program) (w : World) (K : PySem.W.Frag) (mg : Str → Option Value) (base : Heap) (k : Nat) (x : Str) (C : Addr) (pre : List D → Prop) (G : List D → D) : Prop where
  mgC : mg x = some (.ref C)
  ex : ∃ (f : Addr) (fd : FuncData) (ps : List Str), FnOk P w K mg base CX0 k f fd ps (spIU K C pre G) ∧ Mk K C f ∧ Binds K fd ps []
theorem uni_rc {A B C : Hp} (h1 : Same A C) (h2 : Same B C) : Same B (uni A B) := fun a o h => by
  unfold uni
  cases e : A a with
  | none => exact h
  | some u =>
    have a1 := h1 a u e
    have a2 := h2 a o h
    rw [a1] at a2
    exact a2
section
variable {X : Cx} {e a b c : Expr} {es : List Expr} {ρ ρ1 : PEnv} {d d1 d2 d3 : D} {l la lb lc : Lv} {pos p p2 : Pos} {i j k : Int} {ns ms : List Int} {ds fs : List D} {kt : Nat} {x y z : Str} {st : Stmt} {sts : List Stmt} {P : PEnds}
/-- C(args), the arguments held in what is new and stays -/
theorem ju_make {m n : Nat} {C : Addr} {pre : List D → Prop} {G : List D → D} (M : MakerU X.prog X.w X.K X.mg X.base m x C pre G) (hr : Room n X.A) (ha : JA X .frs (e :: es) ρ ds) (hp : pre ds) (hq : G ds = d := by rfl) (hk : m + 1 ≤ n := by decide) (hg : Gl X x := by rfl) (hdb : (x == ("__debug__" : Str)) = false := by decide)
    (he : starEach (e :: es) X.env = (false, eval e X.env) :: starEach es X.env := by exact star_c rfl) (hpl : (backTo pos (starEach es X.env)).any (·.1) = false := by exact back_ns rfl) : JU X .frs (.Call (.Name x p) (e :: es) [] pos) ρ d := by
  subst hq
  obtain ⟨f, fd, ps, F, mk, hb⟩ := M.ex
  intro T σ Q Fm q pins s I
  refine (pe_make mk F (hr.mono hk) hg M.mgC hb .nil pass0 pa_w hdb he hpl).run pins s σ T.h Q I (ha T σ _ Fm fun vs T1 g1 r1 => ?_)
  intro y dx ny nd ne
  have s1 : Same T1.h (upd (upd T1.h dx (.own y)) y (.ins C dx [])) := (same_new nd).trans (same_new (by rw [upd_ne ne.symm]; exact ny))
  have sn : Same T1.n T1.h := g1.ok.ni.trans g1.ok.ih
  refine ⟨y, dx, vs, ds, T1.n, by rw [List.append_nil], upd_same, Same.free sn ny, sn.trans s1, r1, hp, fun g H' Hm h1 h2 h3 h4 rg eg f1 f2 nd' => ⟨rfl, ?_⟩⟩
  have s2 : Same T1.h H' := Same.made ny nd h1
  have fr : ∀ b, b ∈ adds g → T1.h b = none := fun b mb => by
    by_cases z : b = y
    · rw [z]; exact ny
    · exact Same.free s1 (f1 b mb z)
  refine q (.ref y) g ⟨uni T1.i Hm, Hm, H'⟩ (g1.trans ⟨⟨uni_rc (g1.ok.ih.trans s2) h3, uni_to (g1.ok.ih.trans s2) h3⟩, s2, uni_l, h2, fun b q1 q2 => ?_, fun b q1 q2 => h4 b q1 (Same.some s1 q2)⟩) eg rg (fun b mb => ⟨Same.free g1.ex (fr b mb), ?_⟩) nd'
  · show uni T1.i Hm b = none
    rw [uni_right q1]
    exact h4 b (Same.free g1.ok.ni q1) (Same.some s1 q2)
  · show uni T1.i Hm b = none
    rw [uni_right (g1.ok.i_none (fr b mb))]
    exact f2 b mb
/-- C(args), of what is made of numbers -/
theorem ju_makeB {m n : Nat} {C : Addr} {pre : List D → Prop} {G : List D → D} (M : MakerU X.prog X.w X.K X.mg X.base m x C pre G) (hr : Room n X.A) (ha : JA X .full (e :: es) ρ ds) (hp : pre ds) (hbare : bareD d = true) (hq : G ds = d := by rfl) (hk : m + 1 ≤ n := by decide) (hg : Gl X x := by rfl) (hdb : (x == ("__debug__" : Str)) = false := by decide)
    (he : starEach (e :: es) X.env = (false, eval e X.env) :: starEach es X.env := by exact star_c rfl) (hpl : (backTo pos (starEach es X.env)).any (·.1) = false := by exact back_ns rfl) : JU X .frs (.Call (.Name x p) (e :: es) [] pos) ρ d := by
  subst hq
  obtain ⟨f, fd, ps, F, mk, hb⟩ := M.ex
  intro T σ Q Fm q pins s I
  refine (pe_make mk F (hr.mono hk) hg M.mgC hb .nil pass0 pa_w hdb he hpl).run pins s σ T.h Q I (ha T σ _ Fm fun vs T1 g1 r1 => ?_)
  intro y dx ny nd ne
  have s1 : Same T1.h (upd (upd T1.h dx (.own y)) y (.ins C dx [])) := (same_new nd).trans (same_new (by rw [upd_ne ne.symm]; exact ny))
  refine ⟨y, dx, vs, ds, T1.h, by rw [List.append_nil], upd_same, ny, s1, r1, hp, fun g H' Hm h1 h2 h3 h4 rg eg f1 f2 nd' => ⟨rfl, ?_⟩⟩
  have s2 : Same T1.h H' := Same.made ny nd h1
  have fr : ∀ b, b ∈ adds g → T1.h b = none := fun b mb => by
    by_cases z : b = y
    · rw [z]; exact ny
    · exact Same.free s1 (f1 b mb z)
  exact q (.ref y) g ⟨T1.i, T1.n, H'⟩ (g1.trans ⟨⟨g1.ok.ni, g1.ok.ih.trans s2⟩, s2, Same.refl _, Same.refl _, fun b q1 q2 => q1, fun b q1 q2 => q1⟩) eg (rg.bare nd'.ok (by rw [eg]; exact hbare)) (fun b mb => ⟨Same.free g1.ex (fr b mb), g1.ok.i_none (fr b mb)⟩) nd'
theorem set_self {α : Type} {l : List α} {n : Nat} {x : α} (h : l[n]? = some x) : l.set n x = l := by
  apply List.ext_getElem?
  intro i
  by_cases e : n = i
  · subst e
    rw [List.getElem?_set_self (List.getElem?_eq_some_iff.mp h).1, h]
  · rw [List.getElem?_set_ne e]
theorem putF_new {f : Str} {v : V} : ∀ {fs : List Str} {vs : List V}, fs.length = vs.length → f ∉ fs → putF f v (fs.zip vs) = (fs ++ [f]).zip (vs ++ [v])
  | [], [], _, _ => rfl
  | g :: fs, w :: vs, h, n => by
    have n1 : g ≠ f := fun z => n (by rw [z]; exact List.mem_cons_self ..)
    rw [List.zip_cons_cons, putF, if_neg n1, putF_new (Nat.succ.inj h) (fun z => n (List.mem_cons_of_mem _ z))]
    rfl
  | [], _ :: _, h, _ => by cases h
  | _ :: _, [], h, _ => by cases h
theorem pe_self {p' : Pos} (n : Nat) (hN : X.N[n]? = some x := by rfl) (hv : Vis X.env.scope x := by first | exact Or.inl rfl | exact Or.inr (Or.inl rfl) | exact Or.inr (Or.inr rfl)) (hd : (x == ("__debug__" : Str)) = false := by decide) (hcd : (x == ("__classdict__" : Str)) = false := by decide) : PE X (.Name x p') (tVar n) := pe_var hN hv hd hcd
/-- self.f = e, a new field -/
theorem js_fldU (n : Nat) {C : Addr} {b : Addr} {f : Str} {nf : List Str} {gs : List G} {ap : Pos} {p' : Pos} (hr : ρ[n]? = some (some (.tr .frs (.ob b C nf gs)))) (he : JU X .frs e ρ d) (h : ∀ g, erase g = d → okG g = true → P.nx (ρ.set n (some (.tr .frs (.ob b C (nf ++ [f]) (gs ++ [g]))))))
    (hc : Cls X.K C) (hno : NoAttr X.K C f) (hf : f ∉ nf := by decide) (hz : nf.length < 1000 := by decide) (hN : X.N[n]? = some x := by rfl) (hv : Vis X.env.scope x := by first | exact Or.inl rfl | exact Or.inr (Or.inl rfl) | exact Or.inr (Or.inr rfl)) (hd : (x == ("__debug__" : Str)) = false := by decide) (hcd : (x == ("__classdict__" : Str)) = false := by decide)
    (hs : swapsWith e (some (.Attribute (.Name x p') f ap)) pos.line X.env = pure false := by exact sw_ns rfl) : JS X (.Assign [.Attribute (.Name x p') f ap] e pos) P ρ :=
  JS.of (ps_fld (pe_var hN hv hd hcd) pe_w hs) fun T σ D F m => he T σ _ F fun w g T1 g1 eg rg fr nd => by
    have F1 := F.grow g1
    obtain ⟨v, h1, hl, rt, hi, hnd⟩ := F1.val n _ hr
    cases rt with
    | @ob _ _ dx _ _ vs hh hlen rr =>
      have hb : b ∈ adds (.ob b C nf gs) := by rw [adds]; exact List.mem_cons_self ..
      have hbi := hi b hb
      have hnd2 := hnd
      rw [adds] at hnd2
      have n2 := List.nodup_cons.mp hnd2
      obtain ⟨v0, h10, _, rt0, _, _⟩ := F.val n _ hr
      have hbT := rt0.dom b hb
      have hbg : b ∉ adds g := fun z => hbT (fr b z).1
      have hgs : ∀ z, z ∈ addss gs → T.h z ≠ none := fun z mz => rt0.dom z (by rw [adds]; exact List.mem_cons_of_mem _ mz)
      refine ⟨_, h1, b, C, dx, _, rfl, hh, hc, hno, ?_, ?_⟩
      · rw [List.length_zip]
        exact Nat.lt_of_le_of_lt (Nat.min_le_left _ _) hz
      have F2 : Fr X.K T1 σ (ρ.set n none) := F1.forget (by rw [List.length_set]) fun j e' hj => by
        rcases getset hj with ⟨_, q⟩ | ⟨_, q⟩
        · cases q
        · exact q
      have no : ∀ z, z ∈ adds (.ob b C nf gs) → NotOwn σ (ρ.set n none) z := fun z mz =>
        ⟨fun j e' hj o s => by
          rcases getset hj with ⟨_, q⟩ | ⟨nj, q⟩
          · cases q
          · exact F1.sepO n j _ e' z hr q mz o s,
        fun j e' hj mz' => by
          rcases getset hj with ⟨_, q⟩ | ⟨nj, q⟩
          · cases q
          · exact nj (F1.sepT n j _ e' z hr q mz mz')⟩
      have no2 : ∀ z, z ∈ adds g → NotOwn σ (ρ.set n none) z := fun z mz => by
        have q := F.fresh (fr z mz).1
        exact ⟨fun j e' hj => by
          rcases getset hj with ⟨_, q'⟩ | ⟨nj, q'⟩
          · cases q'
          · exact q.own j e' q',
        fun j e' hj => by
          rcases getset hj with ⟨_, q'⟩ | ⟨nj, q'⟩
          · cases q'
          · exact q.inn j e' q'⟩
      have F3 := F2.put (o := .ins C dx (putF f w (nf.zip vs))) hbi (no b hb)
      have ea : adds (.ob b C (nf ++ [f]) (gs ++ [g])) = b :: (addss gs ++ adds g) := by
        rw [adds, addss_append, addss, addss, List.append_nil]
      have at_ : AtE X.K (T1.put b (.ins C dx (putF f w (nf.zip vs)))) (.ref b) (.tr .frs (.ob b C (nf ++ [f]) (gs ++ [g]))) := by
        refine ⟨by decide, ?_, fun z mz => ?_, ?_⟩
        · refine .ob (dx := dx) (vs := vs ++ [w]) ?_ (by rw [List.length_append, List.length_append, hlen]; rfl) (AtGs.append (rr.off n2.1) (.cons (rg.off hbg) .nil))
          show upd T1.h b _ b = _
          rw [upd_same, putF_new hlen hf]
        · rw [ea] at mz
          rcases List.mem_cons.mp mz with rfl | mz
          · exact hbi
          · rcases List.mem_append.mp mz with mz | mz
            · exact hi z (by rw [adds]; exact List.mem_cons_of_mem _ mz)
            · exact (fr z mz).2
        · rw [ea]
          refine List.nodup_cons.mpr ⟨fun mz => ?_, List.nodup_append.mpr ⟨n2.2, nd.nd, fun z1 m1 z2 m2 e' => ?_⟩⟩
          · rcases List.mem_append.mp mz with mz | mz
            · exact n2.1 mz
            · exact hbg mz
          · subst e'
            exact hgs z1 m1 (fr z1 m2).1
      have F4 := F3.bind (i := n) at_ (fun o => nomatch o) (fun z mz => by
        have mz' : z ∈ b :: (addss gs ++ adds g) := by rw [← ea]; exact mz
        rcases List.mem_cons.mp mz' with rfl | mz'
        · exact no _ hb
        · rcases List.mem_append.mp mz' with mz' | mz'
          · exact no z (by rw [adds]; exact List.mem_cons_of_mem _ mz')
          · exact no2 z mz')
      rw [set_self h1, List.set_set] at F4
      exact m.nx _ σ _ (g1.w.trans (Gw.put g1.ok hbi)) F4 (h g eg nd.ok)
end
/-! ### the body of an __init__ -/
def startI (n : Nat) (x C : Addr) (ds : List D) : PEnv := some (.tr .frs (.ob x C [] [])) :: (ds.map (fun d => some (.v .frs d)) ++ List.replicate (n - 1 - ds.length) none)
theorem fr_startI {K : PySem.W.Frag} {H H0 : Hp} {N : List Str} {us : List V} {ds : List D} {x C dx : Addr} (r : RpAll K H0 us ds) (hn : ds.length + 1 ≤ N.length) (hx : H x = some (.ins C dx [])) (h0 : H0 x = none) (s0 : Same H0 H) :
    Fr K ⟨fun b => if b = x then none else H b, H0, H⟩ (L2.start N (.ref x :: us)) (startI N.length x C ds) := by
  have ok : Ok ⟨fun b => if b = x then none else H b, H0, H⟩ := ⟨fun a o h => by
    show (if a = x then none else H a) = some o
    have h' : H0 a = some o := h
    rw [if_neg (fun z => by rw [z, h0] at h'; cases h')]
    exact s0 a o h', fun a o h => by
    have h' : (if a = x then none else H a) = some o := h
    split at h'
    · cases h'
    · exact h'⟩
  have get : ∀ {i : Nat} {e : E}, (startI N.length x C ds)[i]? = some (some e) → (i = 0 ∧ e = .tr .frs (.ob x C [] [])) ∨ ∃ j d, i = j + 1 ∧ ds[j]? = some d ∧ e = .v .frs d := fun {i e} h => by
    unfold startI at h
    cases i with
    | zero => simp at h; exact .inl ⟨rfl, h.symm⟩
    | succ i =>
      rw [List.getElem?_cons_succ] at h
      by_cases hi : i < ds.length
      · rw [List.getElem?_append_left (by rw [List.length_map]; exact hi), List.getElem?_map, List.getElem?_eq_getElem hi] at h
        cases h
        exact .inr ⟨i, _, rfl, List.getElem?_eq_getElem hi, rfl⟩
      · rw [List.getElem?_append_right (by rw [List.length_map]; omega), List.getElem?_replicate] at h
        split at h <;> cases h
  have ninn : ∀ {i : Nat} {e : E} {b : Addr}, (startI N.length x C ds)[i]? = some (some e) → b ∈ e.inn → i = 0 := fun {i e b} h m => by
    rcases get h with ⟨rfl, _⟩ | ⟨j, d, _, _, rfl⟩
    · rfl
    · cases m
  have nown : ∀ {i : Nat} {e : E}, (startI N.length x C ds)[i]? = some (some e) → e.isOwn = false := fun {i e} h => by
    rcases get h with ⟨rfl, rfl⟩ | ⟨j, d, _, _, rfl⟩ <;> rfl
  refine ⟨ok, ?_, fun i e h => ?_, fun i j e e' a h1 h2 o1 => ?_, fun i j e e' a h1 h2 m1 m2 => ?_, fun i j e e' a h1 h2 m1 o2 => ?_⟩
  · unfold L2.start startI
    have rl := r.length
    simp only [List.length_append, List.length_cons, List.length_map, List.length_replicate]
    omega
  · rcases get h with ⟨rfl, rfl⟩ | ⟨j, d, rfl, hd, rfl⟩
    · refine ⟨.ref x, rfl, by decide, .ob (dx := dx) (vs := []) hx rfl .nil, fun b m => ?_, ?_⟩
      · rw [adds, addss, List.mem_singleton] at m
        subst m
        show (if b = b then none else H b) = none
        rw [if_pos rfl]
      · rw [adds, addss]
        exact List.nodup_cons.mpr ⟨List.not_mem_nil, List.nodup_nil⟩
    · obtain ⟨v, h1, h2⟩ := r.get hd
      refine ⟨v, ?_, by decide, h2⟩
      unfold L2.start
      have hi : j < us.length := (List.getElem?_eq_some_iff.mp h1).1
      rw [List.getElem?_append_left (by rw [List.length_map, List.length_cons]; omega), List.getElem?_map, List.getElem?_cons_succ, h1]
      rfl
  · rw [nown h1] at o1; cases o1
  · rw [ninn h1 m1, ninn h2 m2]
  · rw [nown h2] at o2; cases o2
theorem fn_okI {P : Program} {w : World} {K : PySem.W.Frag} {mg : Str → Option Value} {base : Heap} {x qual : Str} {st : Stmt} {f : Addr} {fd : FuncData} {N ps : List Str} {k : Nat} {C : Addr} {pre : List D → Prop} {G : List D → D} (F : Fun K x qual st f fd) (S : FnScope N ps (defScope st))
    (hpre : ∀ ds, pre ds → ds.length + 1 = ps.length)
    (body : ∀ (cdv : Value) (A : Around) (outer : List Env) (s : Shared) (H : Hp) (E : XK), Room k (A.deeper (PyProof.Rows.envOfC qual (defScope st) s.heap.objs.size f cdv)) → ∀ (b : Addr) ds, pre ds →
      JSs (cxOf CX0 P w K mg base N qual (defScope st) f cdv A outer s H E).nox (defBody st) { nx := fun ρ' => ∃ nf gs, ρ'[0]? = some (some (.tr .frs (.ob b C nf gs))) ∧ erase (.ob b C nf gs) = G ds ∧ okG (.ob b C nf gs) = true, rt := fun _ => False } (startI N.length b C ds)) :
    FnOk P w K mg base CX0 (k + 1) f fd ps (spIU K C pre G) := by
  refine F.ok S (fun vs H Q E h => ?_) fun cdv A outer s H vs Q E hr h => ?_
  · obtain ⟨y, dx, us, ds, H0, rfl, _, _, _, r, hp, _⟩ := h
    rw [List.length_cons, r.length]
    exact hpre ds hp
  obtain ⟨y, dx, us, ds, H0, rfl, hx, h0, s0, r, hp, q⟩ := h
  have hlen : ds.length + 1 ≤ N.length := by
    rw [hpre ds hp]
    have := congrArg List.length S.pre
    rw [List.length_take] at this
    omega
  refine ⟨_, pss_w, body cdv A outer s H E hr y ds hp ⟨_, H0, H⟩ _ _ (fr_startI r hlen hx h0 s0) ⟨fun ρ σ T' gw F' e => ?_, fun d v T' g z => z.elim, fun ρ σ T' g F' z => z.elim, fun ρ σ T' g F' z => z.elim, fun _ _ _ _ z => z.elim, fun _ _ _ _ _ _ _ z => z.elim⟩⟩
  obtain ⟨nf, gs, hr', eg, ok⟩ := e
  obtain ⟨v, h1, _, rt, hi, nd⟩ := F'.val 0 _ hr'
  have xi : ∀ b o, H b = some o → b ≠ y → T'.i b = some o := fun b o hb ne => gw.xi b o (by
    show (if b = y then none else H b) = some o
    rw [if_neg ne]
    exact hb)
  cases rt with
  | ob hh hl rr =>
    refine q (.ob y C nf gs) T'.h T'.n (fun b o hb ne => gw.ok.ih b o (xi b o hb ne)) gw.xn (gw.ok.ni.trans gw.ok.ih) (fun a h1 h2 => by
      by_cases z : a = y
      · rw [z]; exact gw.ok.n_none' (hi y (by rw [adds]; exact List.mem_cons_self ..))
      · exact gw.fn a h1 (by show (if a = y then none else H a) ≠ none; rw [if_neg z]; exact h2) h2) (.ob hh hl rr) eg (fun b mb ne => ?_) (fun b mb => gw.ok.n_none' (hi b mb)) ⟨nd, ok⟩
    cases e : H b with
    | none => rfl
    | some o =>
      have := xi b o e ne
      rw [hi b mb] at this
      cases this
end Lf

set_option Elab.async false
set_option linter.all false
set_option maxRecDepth 100000
set_option maxHeartbeats 2000000
set_option autoImplicit false
namespace Lf
open PySem L2
/-- a node of a name's tree changes -/
theorem Fr.putT {K : PySem.W.Frag} {T : W3} {σ : L2.St} {ρ : PEnv} (F : Fr K T σ ρ) {n : Nat} {l : Lv} {g y x : G} {p : List Nat} {b : Addr} {o : HO} (hr : ρ[n]? = some (some (.tr l g))) (hat : G.at p g = some y) (mb : b ∈ adds y) (ea : adds x = adds y)
    (hx : ∀ w, AtG K (T.at l) T.h w y → AtG K (T.at l) (upd T.h b o) w x) : Fr K (T.put b o) σ (ρ.set n (some (.tr l (G.put p x g)))) := by
  obtain ⟨v, h1, h2⟩ := F.val n _ hr
  have k : ∀ v, AtG K (T.at l) T.h v g → AtG K (T.at l) (upd T.h b o) v (G.put p x g) ∧ adds (G.put p x g) = adds g := fun v h => AtG.putAt hx ea mb p h h2.2.2.2 hat
  exact F.chgT hr (at_adds p hat mb) (k v h2.2.1).2 fun v' _ h' => (k v' h').1
theorem lookup_zip {K : PySem.W.Frag} {Hs H : Hp} {f : Str} {g1 : G} : ∀ {fs : List Str} {vs : List V} {gs : List G}, AtGs K Hs H vs gs → (fs.zip gs).lookup f = some g1 → ∃ w, (fs.zip vs).lookup f = some w ∧ AtG K Hs H w g1
  | [], _, _, _, e => by simp at e
  | _ :: _, _, _, .nil, e => by simp at e
  | h :: fs, _, _, .cons (v := v) (g := g) hv r, e => by
    rw [List.zip_cons_cons] at e ⊢
    by_cases q : f = h
    · subst q
      simp at e
      subst e
      exact ⟨v, by simp, hv⟩
    · have q' : (f == h) = false := by simpa using q
      simp only [List.lookup, q'] at e ⊢
      exact lookup_zip r e
section
variable {X : Cx} {e a b c : Expr} {es : List Expr} {ρ ρ1 : PEnv} {d d1 d2 d3 : D} {l la lb lc : Lv} {pos p p2 : Pos} {i j k : Int} {ns ms : List Int} {ds fs : List D} {kt : Nat} {x y z : Str} {st : Stmt} {sts : List Stmt} {P : PEnds} {g g1 : G} {q : List Nat} {r : Addr} {gs : List G}
/-! ### reading -/
/-- the whole tree, read -/
theorem je_tr (n : Nat) (hr : ρ[n]? = some (some (.tr l g))) (hq : erase g = d := by rfl) (hN : X.N[n]? = some x := by rfl) (hv : Vis X.env.scope x := by first | exact Or.inl rfl | exact Or.inr (Or.inl rfl) | exact Or.inr (Or.inr rfl)) (hd : (x == ("__debug__" : Str)) = false := by decide)
    (hcd : (x == ("__classdict__" : Str)) = false := by decide) : JE X .full (.Name x pos) ρ d :=
  JE.of (pe_var hN hv hd hcd) fun T σ Q F q => by
    obtain ⟨v, h1, h2⟩ := F.val n _ hr
    subst hq
    exact ⟨v, h1, q v T (Grow.refl F.ok) (h2.2.1.rp (F.ok.full (a := l)) fun _ _ => rfl)⟩
/-- where it stands -/
theorem je_trR (n : Nat) (hr : ρ[n]? = some (some (.tr l g))) (hq : root g = d := by rfl) (hN : X.N[n]? = some x := by rfl) (hv : Vis X.env.scope x := by first | exact Or.inl rfl | exact Or.inr (Or.inl rfl) | exact Or.inr (Or.inr rfl)) (hd : (x == ("__debug__" : Str)) = false := by decide)
    (hcd : (x == ("__classdict__" : Str)) = false := by decide) : JE X l (.Name x pos) ρ d :=
  JE.of (pe_var hN hv hd hcd) fun T σ Q F q => by
    obtain ⟨v, h1, h2⟩ := F.val n _ hr
    subst hq
    exact ⟨v, h1, q v T (Grow.refl F.ok) h2.2.1.root⟩
/-- where a field of a node stands -/
theorem je_trF (n : Nat) (q : List Nat) {C : Addr} {nf : List Str} {f : Str} (ha : JE X la a ρ (.ptr r)) (hr : ρ[n]? = some (some (.tr l g))) (hat : G.at q g = some (.ob r C nf gs)) (hl : (nf.zip gs).lookup f = some g1) (hc : Cls X.K C) (hn : NoAttr X.K C f) (hq : root g1 = d := by rfl)
    (hb : attributeBase a f X.env (eval a X.env) = eval a X.env := by rfl) : JE X l (.Attribute a f pos) ρ d :=
  JE.of (pe_fld pe_w hb) fun T σ Q F k => ha T σ _ F fun v T1 g1 r1 => by
    cases r1
    obtain ⟨w, h1, h2⟩ := (F.grow g1).val n _ hr
    obtain ⟨w', h3⟩ := h2.2.1.at q hat
    subst hq
    cases h3 with
    | ob hh hlen rr =>
      obtain ⟨u, l1, l2⟩ := lookup_zip rr hl
      exact ⟨r, C, _, _, u, rfl, hh, hc, hn, l1, k u T1 g1 l2.root⟩
/-- a node read: a list of the places its items stand at -/
theorem je_view (n : Nat) (q : List Nat) (ha : JE X la a ρ (.ptr r)) (hr : ρ[n]? = some (some (.tr l g))) (hat : G.at q g = some (.ls r gs)) (hq : gs.map root = ds := by rfl) : JE X .full a ρ (.lst ds) := fun T σ Q F k => ha T σ Q F fun v T1 g1 r1 => by
  cases r1
  obtain ⟨w, h1, h2⟩ := (F.grow g1).val n _ hr
  obtain ⟨w', h3⟩ := h2.2.1.at q hat
  subst hq
  cases h3 with
  | ls hh rr => exact k _ T1 g1 (.lst hh (rr.roots.mono (g1.ok.full (a := l))))
/-- a node read as it is -/
theorem je_deep (n : Nat) (q : List Nat) {y : G} (ha : JE X la a ρ (.ptr r)) (hr : ρ[n]? = some (some (.tr l g))) (hat : G.at q g = some y) (hy : root y = .ptr r) (hn : ∀ d, y ≠ .d d := by intro _ h; cases h) (hq : erase y = d := by rfl) : JE X .full a ρ d := fun T σ Q F k => ha T σ Q F fun v T1 g1 r1 => by
  cases r1
  obtain ⟨w, h1, h2⟩ := (F.grow g1).val n _ hr
  obtain ⟨w', h3⟩ := h2.2.1.at q hat
  subst hq
  have e : w' = .ref r := by
    cases h3 with
    | d _ => exact absurd rfl (hn _)
    | li _ => cases hy; rfl
    | ls _ _ => cases hy; rfl
    | ob _ _ _ => cases hy; rfl
  rw [e] at h3
  exact k _ T1 g1 (h3.rp (g1.ok.full (a := l)) fun _ _ => rfl)
/-! ### changes -/
theorem js_appPI (n : Nat) (q : List Nat) {apos cpos : Pos} (ha : JE X la a ρ (.ptr r)) (hr : ρ[n]? = some (some (.tr l g))) (hat : G.at q g = some (.li r ns)) (he : JE X lb e ρ (.int i)) (h : P.nx (ρ.set n (some (.tr l (G.put q (.li r (ns ++ [i])) g))))) (hz : ns.length < 100000)
    (hbm : ∀ (to : TE) (ta : TA), PE X a to → PA X [e] ta → PE X (.Call (.Attribute a "append" apos) [e] [] cpos) (tBM X.K "list" rAppend to ta) := by
      exact fun to ta ho hx => pe_bm PySem.F.plainAttrs_list PySem.F.slot_list_append PySem.F.type_list_append mt_append ho hx)
    (hst : starEach [e] X.env = (false, eval e X.env) :: starEach [] X.env := by exact star_c rfl) (hs : swapsWith (.Call (.Attribute a "append" apos) [e] [] cpos) none pos.line X.env = pure false := by exact sw_ns rfl) :
    JS X (.Expr (.Call (.Attribute a "append" apos) [e] [] cpos) pos) P ρ :=
  JS.of (ps_expr (hbm _ _ pe_w (pa_cons pe_w pa_nil hst)) hs) fun T σ D F m => ha T σ _ F fun v T1 g1 r1 => by
    cases r1
    obtain ⟨w, h1, h2⟩ := (F.grow g1).val n _ hr
    obtain ⟨w', h3⟩ := h2.2.1.at q hat
    cases h3 with
    | li hh =>
    refine ⟨.inl ⟨rfl, _, SqL.of hh⟩, he T1 σ _ (F.grow g1) fun w T2 g2 r2 => ?_⟩
    cases r2
    have g := g1.trans g2
    have hh2 := g2.ex _ _ hh
    have hi := g2.fi r (h2.2.2.1 r (at_adds q hat (by rw [adds]; exact List.mem_cons_self ..))) (by rw [hh]; intro z; cases z)
    refine ⟨r, _, _, rfl, rfl, hh2, by rw [List.length_map]; exact small_lt hz, ?_⟩
    exact m.nx _ σ (T2.put r _) (g.w.trans (Gw.put g.ok hi)) ((F.grow g).putT (x := .li r (ns ++ [i])) hr hat (by rw [adds]; exact List.mem_cons_self ..) rfl fun w hw => by
      cases hw with
      | li _ => exact .li (by rw [upd_same, List.map_append]; rfl)) h
theorem js_appPD (n : Nat) (q : List Nat) {apos cpos : Pos} (ha : JE X la a ρ (.ptr r)) (hr : ρ[n]? = some (some (.tr l g))) (hat : G.at q g = some (.ls r gs)) (he : JE X lb e ρ d) (h : P.nx (ρ.set n (some (.tr l (G.put q (.ls r (gs ++ [.d d])) g))))) (hz : gs.length < 100000) (hle : Lv.le lb l = true := by rfl)
    (hbm : ∀ (to : TE) (ta : TA), PE X a to → PA X [e] ta → PE X (.Call (.Attribute a "append" apos) [e] [] cpos) (tBM X.K "list" rAppend to ta) := by
      exact fun to ta ho hx => pe_bm PySem.F.plainAttrs_list PySem.F.slot_list_append PySem.F.type_list_append mt_append ho hx)
    (hst : starEach [e] X.env = (false, eval e X.env) :: starEach [] X.env := by exact star_c rfl) (hs : swapsWith (.Call (.Attribute a "append" apos) [e] [] cpos) none pos.line X.env = pure false := by exact sw_ns rfl) :
    JS X (.Expr (.Call (.Attribute a "append" apos) [e] [] cpos) pos) P ρ :=
  JS.of (ps_expr (hbm _ _ pe_w (pa_cons pe_w pa_nil hst)) hs) fun T σ D F m => ha T σ _ F fun v T1 g1 r1 => by
    cases r1
    obtain ⟨w, h1, h2⟩ := (F.grow g1).val n _ hr
    obtain ⟨w', h3⟩ := h2.2.1.at q hat
    have hnl : l ≠ .full := h2.1
    cases h3 with
    | @ls _ _ vs hh rr =>
    refine ⟨.inl ⟨rfl, _, SqL.of hh⟩, he T1 σ _ (F.grow g1) fun w T2 g2 r2 => ?_⟩
    have g := g1.trans g2
    have hh2 := g2.ex _ _ hh
    have mr : r ∈ adds (.ls r gs) := by rw [adds]; exact List.mem_cons_self ..
    have hi := g2.fi r (h2.2.2.1 r (at_adds q hat mr)) (by rw [hh]; intro z; cases z)
    refine ⟨r, _, _, rfl, rfl, hh2, by rw [rr.length]; exact small_lt hz, ?_⟩
    have ea : adds (.ls r (gs ++ [.d d])) = adds (.ls r gs) := by rw [adds, adds, addss_append, addss, adds, addss, List.append_nil, List.append_nil]
    obtain ⟨w2, k1, k2⟩ := (F.grow g).val n _ hr
    have nd2 := k2.2.2.2
    refine m.nx _ σ (T2.put r _) (g.w.trans (Gw.put g.ok hi)) ((F.grow g).putT hr hat mr ea fun w' hw => ?_) h
    cases hw with
    | @ls _ _ vs' hh' rr' =>
      rw [hh2] at hh'
      cases hh'
      refine .ls upd_same (AtGs.append (rr'.off fun z => ?_) (.cons (.d (r2.mono (g2.ok.le hle))) .nil))
      have : (adds (.ls r gs)).Nodup := by
        have key : ∀ (p : List Nat) {g y : G}, G.at p g = some y → (adds g).Nodup → (adds y).Nodup := by
          intro p
          induction p with
          | nil => intro g y e nd; cases e; exact nd
          | cons i p ih =>
            intro g y e nd
            cases g with
            | d _ => cases e
            | li _ _ => cases e
            | ls c gs =>
              cases q : gs[i]? with
              | none => simp [G.at, q] at e
              | some g1 =>
                simp only [G.at, q] at e
                rw [adds] at nd
                exact ih e (nodup_get q (List.nodup_cons.mp nd).2)
            | ob c C fs gs =>
              cases q : gs[i]? with
              | none => simp [G.at, q] at e
              | some g1 =>
                simp only [G.at, q] at e
                rw [adds] at nd
                exact ih e (nodup_get q (List.nodup_cons.mp nd).2)
        exact key q hat nd2
      rw [adds] at this
      exact (List.nodup_cons.mp this).1 z
theorem js_popPI (n : Nat) (q : List Nat) {apos cpos : Pos} (ha : JE X la a ρ (.ptr r)) (hr : ρ[n]? = some (some (.tr l g))) (hat : G.at q g = some (.li r ns)) (h : P.nx (ρ.set n (some (.tr l (G.put q (.li r ns.dropLast) g))))) (hz : 0 < ns.length)
    (hbm : ∀ (to : TE), PE X a to → PE X (.Call (.Attribute a "pop" apos) [] [] cpos) (tBM0 X.K "list" rPop to) := by
      exact fun to ho => pe_bm0 PySem.F.plainAttrs_list PySem.F.slot_list_pop PySem.F.type_list_pop mt_pop ho)
    (hs : swapsWith (.Call (.Attribute a "pop" apos) [] [] cpos) none pos.line X.env = pure false := by exact sw_ns rfl) :
    JS X (.Expr (.Call (.Attribute a "pop" apos) [] [] cpos) pos) P ρ :=
  JS.of (ps_expr (hbm _ pe_w) hs) fun T σ D F m => ha T σ _ F fun v T1 g1 r1 => by
    cases r1
    obtain ⟨w, h1, h2⟩ := (F.grow g1).val n _ hr
    obtain ⟨w', h3⟩ := h2.2.1.at q hat
    cases h3 with
    | li hh =>
    refine ⟨.inl ⟨rfl, _, SqL.of hh⟩, r, _, .int (ns[ns.length - 1]'(by omega)), rfl, rfl, hh, ?_, ?_⟩
    · rw [List.length_map, List.getElem?_map, List.getElem?_eq_getElem (by omega)]
      rfl
    · have mr : r ∈ adds (.li r ns) := by rw [adds]; exact List.mem_cons_self ..
      have hi := h2.2.2.1 r (at_adds q hat mr)
      exact m.nx _ σ (T1.put r _) (g1.w.trans (Gw.put g1.ok hi)) ((F.grow g1).putT (x := .li r ns.dropLast) hr hat mr rfl fun w hw => by
        cases hw with
        | li _ => exact .li (by rw [upd_same, List.map_dropLast])) h
theorem js_setPI (n : Nat) (q : List Nat) {pt : Pos} (ha : JE X la a ρ (.ptr r)) (hr : ρ[n]? = some (some (.tr l g))) (hat : G.at q g = some (.li r ns)) (he : JE X lc e ρ (.int k)) (hb : JE X lb b ρ (.int i)) (hin : inR ns.length i) (h : P.nx (ρ.set n (some (.tr l (G.put q (.li r (setI ns i k)) g)))))
    (hgs : ∀ (to ti : TE), PE X a to → PE X b ti → PG X (.Subscript a b pt) (gSub to ti rSetL) := by exact fun to ti h1 h2 => pg_sub h1 h2 set_list)
    (hs : swapsWithSole [.Subscript a b pt] e pos.line X.env = pure false := by exact sws_ns rfl) (hw : swappedStores [.Subscript a b pt] e X.env = pure none := by exact ss_sub)
    (h1 : (assignEach [.Subscript a b pt] X.env).map (·.2) = [assign (.Subscript a b pt) X.env] := by rfl) : JS X (.Assign [.Subscript a b pt] e pos) P ρ :=
  JS.of (ps_asg pe_w (hgs _ _ pe_w pe_w) hs hw h1) fun T σ D F m => he T σ _ F fun w T1 g1 r1 => by
    cases r1
    refine ha T1 σ _ (F.grow g1) fun v T2 g2 r2 => ?_
    cases r2
    refine hb T2 σ _ (F.grow (g1.trans g2)) fun u T3 g3 r3 => ?_
    cases r3
    have g := (g1.trans g2).trans g3
    obtain ⟨w, h1, h2⟩ := (F.grow g).val n _ hr
    obtain ⟨w', h3⟩ := h2.2.1.at q hat
    cases h3 with
    | li hh =>
    have mr : r ∈ adds (.li r ns) := by rw [adds]; exact List.mem_cons_self ..
    have hi := h2.2.2.1 r (at_adds q hat mr)
    obtain ⟨j, hj, ej, qj⟩ := ixN_some hin
    refine ⟨r, _, i, j, rfl, rfl, hh, by rw [List.length_map]; exact ej, ?_⟩
    have es : (ns.map V.int).set j (V.int k) = (setI ns i k).map V.int := by
      unfold setI
      rcases qj with ⟨h0, rfl⟩ | ⟨h0, rfl⟩
      · rw [if_pos h0, List.map_set]
      · rw [if_neg (by omega), List.map_set]
    rw [es]
    exact m.nx _ σ (T3.put r _) (g.w.trans (Gw.put g.ok hi)) ((F.grow g).putT (x := .li r (setI ns i k)) hr hat mr rfl fun w hw => by
      cases hw with
      | li _ => exact .li upd_same) h

/-! ### displays of new trees -/
def JAU (X : Cx) (l : Lv) (es : List Expr) (ρ : PEnv) (ds : List D) : Prop :=
  ∀ (T : W3) (σ : L2.St) (Q : List V → Hp → Prop), Fr X.K T σ ρ → (∀ vs gs T', Grow T T' → erases gs = ds → AtGs X.K (T'.at l) T'.h vs gs → (∀ b, b ∈ addss gs → T.h b = none ∧ T'.i b = none) → (addss gs).Nodup → okGs gs = true → Q vs T'.h) → wA X es σ T.h Q
theorem jau_nil : JAU X l [] ρ [] := fun T σ Q F q pos pins s I => pa_nil.run pos pins s σ T.h Q I (q [] [] T (Grow.refl F.ok) rfl .nil (fun b m => by rw [addss] at m; cases m) (by rw [addss]; exact List.nodup_nil) rfl)
theorem jau_cons (h : JU X l e ρ d) (hr : JAU X l es ρ ds) (hs : starEach (e :: es) X.env = (false, eval e X.env) :: starEach es X.env := by exact star_c rfl) : JAU X l (e :: es) ρ (d :: ds) :=
  fun T σ Q F q pos pins s I => (pa_cons pe_w pa_w hs).run pos pins s σ T.h Q I (h T σ _ F fun v g T1 g1 e1 r1 m1 nd1 => hr T1 σ _ (F.grow g1) fun vs gs T2 g2 e2 r2 m2 nd2 ok2 =>
    q _ (g :: gs) T2 (g1.trans g2) (by rw [erases, e1, e2]) (.cons (r1.mono (g2.at l) g2.ex) r2) (fun b m => by
      rw [addss] at m
      rcases List.mem_append.mp m with m | m
      · exact ⟨(m1 b m).1, g2.fi b (m1 b m).2 (r1.dom b m)⟩
      · exact ⟨Same.free g1.ex (m2 b m).1, (m2 b m).2⟩) (by
      rw [addss]
      exact List.nodup_append.mpr ⟨nd1.nd, nd2, fun a ma b mb e => by subst e; exact r1.dom a ma (m2 a mb).1⟩) (by rw [okGs, nd1.ok, ok2]; rfl))
/-- a display of new trees and of constants -/
theorem jau_conD (h : JE X .frs e ρ d) (hr : JAU X .frs es ρ ds) (hl : leafD d = true := by rfl) (hs : starEach (e :: es) X.env = (false, eval e X.env) :: starEach es X.env := by exact star_c rfl) : JAU X .frs (e :: es) ρ (d :: ds) :=
  fun T σ Q F q pos pins s I => (pa_cons pe_w pa_w hs).run pos pins s σ T.h Q I (h T σ _ F fun v T1 g1 r1 => hr T1 σ _ (F.grow g1) fun vs gs T2 g2 e2 r2 m2 nd2 ok2 =>
    q _ (.d d :: gs) T2 (g1.trans g2) (by rw [erases, erase, e2]) (.cons (.d (r1.mono (g2.at .frs))) r2) (fun b m => by
      rw [addss, adds, List.nil_append] at m
      exact ⟨Same.free g1.ex (m2 b m).1, (m2 b m).2⟩) (by
      rw [addss, adds, List.nil_append]
      exact nd2) (by rw [okGs, okG, hl, ok2]; rfl))
theorem ju_lst (h : JAU X l es ρ ds) (hz : ds.length ≤ 100000 := by first | decide | exact of_decide_eq_true rfl) (z : Lv.le l .imm = true := by rfl) : JU X l (.List es pos) ρ (.lst ds) :=
  fun T σ Q F q pins s I => (pe_lst pa_w).run pins s σ T.h Q I (h T σ _ F fun vs gs T1 g1 e1 r1 m1 nd1 ok1 => ⟨by rw [r1.length, ← erases_length, e1]; exact small_of hz, fun p hp => by
    have np : p ∉ addss gs := fun m => r1.dom p m hp
    have r2 := r1.off (o := .lst vs) np
    have r2' : AtGs X.K ((T1.put p (.lst vs)).at l) (upd T1.h p (.lst vs)) vs gs := by
      cases l with
      | full => cases z
      | imm => exact r2
      | frs => exact r2
    exact q _ (.ls p gs) (T1.put p _) (g1.trans (Grow.put g1.ok hp)) (by rw [erase, e1]) (.ls upd_same r2') (fun b m => by
      rw [adds] at m
      rcases List.mem_cons.mp m with rfl | m
      · exact ⟨Same.free g1.ex hp, g1.ok.i_none hp⟩
      · exact m1 b m) ⟨by rw [adds]; exact List.nodup_cons.mpr ⟨np, nd1⟩, by rw [okG]; exact ok1⟩⟩)

/-! ### comprehensions of new trees -/
theorem lcU_run {own : List Nat} {tt : TT} {te : TE} {gg : TG} {wi : TI} {l' : Lv} {Tst : D → Bool} {f : D → D} {ρd : D → PEnv} (hl' : Lv.le l' .imm = true)
    (hi : ∀ (T : W3) (σ : L2.St) (R : It → Hp → Prop), Fr X.K T σ ρ → (∀ J T', Grow T T' → Walks X.K T' J l ds → R J T'.h) → wi σ T.h R)
    (hg : ∀ d, d ∈ ds → ∀ (T : W3) (σ : L2.St) (v : V) (Q : L2.St → Hp → Prop), Fr X.K T σ (wipeL ρ own) → Rp X.K (T.at l) v d → (∀ σ', L2.wipe σ' own = L2.wipe σ own → Fr X.K T σ' (ρd d) → Q σ' T.h) → gg v σ T.h Q)
    (ht : ∀ d, d ∈ ds → ∀ (T : W3) (σ : L2.St) (Q : Bool → Hp → Prop), Fr X.K T σ (ρd d) → (∀ T', Grow T T' → Q (Tst d) T'.h) → tt σ T.h Q)
    (he : ∀ d, d ∈ ds → Tst d = true → ∀ (T : W3) (σ : L2.St) (Q : VK), Fr X.K T σ (ρd d) → (∀ v g T', Grow T T' → erase g = f d → AtG X.K (T'.at l') T'.h v g → (∀ b, b ∈ adds g → T.h b = none ∧ T'.i b = none) → Nd g → Q v T'.h) → te σ T.h Q)
    (hz : ds.length ≤ 100000) (T : W3) (σ : L2.St) (Q : VK) (F : Fr X.K T σ ρ)
    (q : ∀ v g T', Grow T T' → erase g = .lst ((ds.filter Tst).map f) → AtG X.K (T'.at l') T'.h v g → (∀ b, b ∈ adds g → T.h b = none ∧ T'.i b = none) → Nd g → Q v T'.h) : tLc wi gg tt te own σ T.h Q := by
  refine hi T σ _ F fun J T1 g1 W => ?_
  intro D0 hD
  have F1 := (F.grow g1)
  have hww : L2.wipe (L2.wipe σ own) own = L2.wipe σ own := by
    have key : ∀ (own : List Nat) (σ : L2.St) (n : Nat), L2.wipe (σ.set n none) own = (L2.wipe σ own).set n none := by
      intro own
      induction own with
      | nil => intro σ n; rfl
      | cons v r ih =>
        intro σ n
        show (L2.wipe (σ.set n none) r).set v none = ((L2.wipe σ r).set v none).set n none
        rw [ih]
        by_cases e : n = v
        · subst e; rfl
        · rw [List.set_comm _ _ e]
    have key2 : ∀ (own : List Nat) (σ : L2.St), L2.wipe (L2.wipe σ own) own = L2.wipe σ own := by
      intro own
      induction own with
      | nil => intro σ; rfl
      | cons v r ih =>
        intro σ
        show (L2.wipe ((L2.wipe σ r).set v none) r).set v none = (L2.wipe σ r).set v none
        rw [key, ih, List.set_set]
    exact key2 own σ
  refine ⟨fun i m H => m = ds.length - i ∧ i ≤ ds.length ∧ ∃ T2 vs gs, T2.h = H ∧ Gs T1 T2 ∧ Same T1.h T2.h ∧ Fr X.K T2 σ ρ ∧ T2.i D0 = none ∧ T2.h D0 = some (.lst vs) ∧ erases gs = ((ds.take i).filter Tst).map f ∧ AtGs X.K (T2.at l') T2.h vs gs ∧
      (∀ b, b ∈ addss gs → T1.h b = none ∧ T2.i b = none) ∧ (D0 :: addss gs).Nodup ∧ okGs gs = true,
    ⟨ds.length, by simp, Nat.zero_le _, T1.put D0 (.lst []), [], [], rfl, (Grow.put g1.ok hD).s, same_new hD, F1.put (g1.ok.i_none hD) (F1.fresh hD), g1.ok.i_none hD, upd_same, rfl, .nil, (fun b m => by rw [addss] at m; cases m), by rw [addss]; exact List.nodup_cons.mpr ⟨List.not_mem_nil, List.nodup_nil⟩, rfl⟩, ?_⟩
  rintro i m H2 ⟨rfl, hle, T2, vs, gs, rfl, gw, sh, F2, hDi, hDh, eg, rr, fr, nd, ok⟩
  obtain ⟨w1, w2⟩ := W T2 i gw.xi gw.xn gw.ok
  have hD2 : T.h D0 = none := Same.free g1.ex hD
  cases e : ds[i]? with
  | none =>
    refine .inl ⟨w2 e, ?_⟩
    rw [List.take_of_length_le (List.getElem?_eq_none_iff.mp e)] at eg
    refine q (.ref D0) (.ls D0 gs) T2 ⟨gw.ok, g1.ex.trans sh, g1.xi.trans gw.xi, g1.xn.trans gw.xn, fun a h1 h2 => gw.fi a (g1.fi a h1 h2) (Same.some g1.ex h2), fun a h1 h2 => gw.fn a (g1.fn a h1 h2) (Same.some g1.ex h2)⟩ (by rw [erase, eg]) (.ls hDh rr) (fun b mb => ?_) ⟨by rw [adds]; exact nd, by rw [okG]; exact ok⟩
    rw [adds] at mb
    rcases List.mem_cons.mp mb with rfl | mb
    · exact ⟨hD2, hDi⟩
    · exact ⟨Same.free g1.ex (fr b mb).1, (fr b mb).2⟩
  | some d =>
    obtain ⟨go, yld⟩ := w1 d e
    have hlt := (List.getElem?_eq_some_iff.mp e).1
    have hmem : d ∈ ds := List.mem_of_getElem? e
    have htake : ds.take (i + 1) = ds.take i ++ [d] := by rw [List.take_add_one, e]; rfl
    refine .inr ⟨go, fun H3 => ∃ T3 vs3 gs3, T3.h = H3 ∧ Gs T1 T3 ∧ Same T1.h T3.h ∧ Fr X.K T3 σ ρ ∧ T3.i D0 = none ∧ T3.h D0 = some (.lst vs3) ∧ erases gs3 = ((ds.take (i + 1)).filter Tst).map f ∧ AtGs X.K (T3.at l') T3.h vs3 gs3 ∧
        (∀ b, b ∈ addss gs3 → T1.h b = none ∧ T3.i b = none) ∧ (D0 :: addss gs3).Nodup ∧ okGs gs3 = true,
      fun H3 ⟨T3, vs3, gs3, h⟩ => ⟨ds.length - (i + 1), by omega, rfl, by omega, T3, vs3, gs3, h⟩, fun x H' yv => ?_⟩
    obtain ⟨T3, rfl, g3, r3⟩ := yld x H' yv
    have F3 := F2.grow g3
    refine hg d hmem T3 (L2.wipe σ own) x _ (F3.wipeL own) r3 fun σ4 hw F4 => ⟨by rw [hw, hww], ?_⟩
    refine ht d hmem T3 σ4 _ F4 fun T5 g5 => ?_
    have g35 := g3.trans g5
    cases ev : Tst d with
    | false =>
      refine iteF ⟨T5, vs, gs, rfl, gw.trans g35.s, sh.trans g35.ex, F2.grow g35, g35.fi D0 hDi (by rw [hDh]; intro z; cases z), g35.ex _ _ hDh, ?_, rr.mono (g35.at l') g35.ex, fun b mb => ⟨(fr b mb).1, g35.fi b (fr b mb).2 (rr.dom b mb)⟩, nd, ok⟩
      rw [htake, List.filter_append, List.filter_cons_of_neg (by rw [ev]; exact Bool.false_ne_true), List.filter_nil, List.append_nil]
      exact eg
    | true =>
      refine iteT (he d hmem ev T5 σ4 _ (F4.grow g5) fun v g6' T6 g6 e6 r6 m6 nd6 => ?_)
      have g36 := g35.trans g6
      have hDi6 := g36.fi D0 hDi (by rw [hDh]; intro z; cases z)
      have hDh6 := g36.ex _ _ hDh
      have hD5 : T5.h D0 ≠ none := by rw [g35.ex _ _ hDh]; intro z; cases z
      have nD6 : D0 ∉ adds g6' := fun mb => hD5 (m6 D0 mb).1
      have nz : gs.length ≤ i := by
        rw [← erases_length, eg, List.length_map]
        exact Nat.le_trans (List.length_filter_le _ _) (by rw [List.length_take]; omega)
      have n2 := List.nodup_cons.mp nd
      have rr6 := rr.mono (g36.at l') g36.ex
      refine ⟨vs, hDh6, by rw [rr.length]; exact small_lt (by omega), T6.put D0 (.lst (vs ++ [v])), vs ++ [v], gs ++ [g6'], rfl, (gw.trans g36.s).trans (Gs.put g36.ok hDi6), ?_, ?_, hDi6, upd_same, ?_, ?_, fun b mb => ?_, ?_, ?_⟩
      · exact same_into (sh.trans g36.ex) hD
      · exact (F2.grow g36).put hDi6 (F1.fresh hD)
      · rw [htake, List.filter_append, List.filter_cons_of_pos ev, List.filter_nil, List.map_append, erases_append, eg, erases, e6, erases]
        rfl
      · have z := AtGs.append (rr6.off (o := .lst (vs ++ [v])) n2.1) (.cons (r6.off (o := .lst (vs ++ [v])) nD6) .nil)
        cases l' with
        | full => cases hl'
        | imm => exact z
        | frs => exact z
      · rw [addss_append, addss, addss, List.append_nil] at mb
        rcases List.mem_append.mp mb with mb | mb
        · exact ⟨(fr b mb).1, g36.fi b (fr b mb).2 (rr.dom b mb)⟩
        · exact ⟨Same.free (sh.trans g35.ex) (m6 b mb).1, (m6 b mb).2⟩
      · rw [addss_append, addss, addss, List.append_nil]
        refine List.nodup_cons.mpr ⟨fun mb => ?_, List.nodup_append.mpr ⟨n2.2, nd6.nd, fun a ma b mb e => ?_⟩⟩
        · rcases List.mem_append.mp mb with mb | mb
          · exact n2.1 mb
          · exact nD6 mb
        · subst e
          exact (rr.mono (Same.refl _) g35.ex).dom a ma (m6 a mb).1
      · have key : ∀ (xs ys : List G), okGs xs = true → okGs ys = true → okGs (xs ++ ys) = true := by
          intro xs
          induction xs with
          | nil => intro ys _ h; exact h
          | cons a r ih =>
            intro ys h1 h2
            rw [okGs, Bool.and_eq_true] at h1
            rw [List.cons_append, okGs, h1.1, ih ys h1.2 h2]
            rfl
        exact key _ _ ok (by rw [okGs, nd6.ok]; rfl)
variable {scope : Scope} {elt tg iter : Expr} {ifs : List Expr}
theorem ju_lc {own : List (Str × Nat)} {l' : Lv} {Tst : D → Bool} {f : D → D} {ρd : D → PEnv} (hi : JI X tg iter l ρ ds)
    (hg : ∀ d, d ∈ ds → ∀ s H C cl fp, JGb (Blk X s H scope C cl fp) tg l d (own.map (·.2)) (wipeL ρ (own.map (·.2))) (ρd d))
    (ht : ∀ d, d ∈ ds → ∀ s H C cl fp, JTs (Blk X s H scope C cl fp) ifs (ρd d) (Tst d))
    (he : ∀ d, d ∈ ds → Tst d = true → ∀ s H C cl fp, JU (Blk X s H scope C cl fp) l' elt (ρd d) (f d)) (hN : X.N.Nodup) (ok : BlkOk X.N X.env.scope scope own) (hz : ds.length ≤ 100000) (hl' : Lv.le l' .imm = true := by rfl) (hc : X.calm = true := by rfl)
    (hs : ∀ x, foldedSetIterable iter X.env x = pure x := by exact fs_ns rfl) : JU X l' (.ListComp elt [⟨tg, iter, ifs, 0⟩] scope pos) ρ (.lst ((ds.filter Tst).map f)) :=
  fun T σ Q F q pins s I => (pe_lc (own := own) (g := fun v σ H Q => ∀ s H0 C cl fp, wG (Blk X s H0 scope C cl fp) tg v σ H Q) (tt := fun σ H Q => ∀ s H0 C cl fp, wTs (Blk X s H0 scope C cl fp) ifs σ H Q) (te := fun σ H Q => ∀ s H0 C cl fp, wE (Blk X s H0 scope C cl fp) elt σ H Q) hc hN pi_w ok
      (fun s H C cl fp => ⟨fun pins s' σ H' v u Q I r h => h s H C cl fp pins s' u I r⟩) (fun s H C cl fp => ⟨fun pins s' σ H' Q I h => h s H C cl fp pins s' I⟩) (fun s H C cl fp => ⟨fun pins s' σ H' Q I h => h s H C cl fp pins s' I⟩) hs).run pins s σ T.h Q I
    (lcU_run hl' hi (fun d hd T σ v Q F r q s H C cl fp => hg d hd s H C cl fp T σ v Q F r q) (fun d hd T σ Q F q s H C cl fp => ht d hd s H C cl fp T σ Q F q) (fun d hd ht' T σ Q F q s H C cl fp => he d hd ht' s H C cl fp T σ Q F q) hz T σ Q F q)
end
end Lf

set_option Elab.async false
set_option linter.all false
set_option maxRecDepth 100000
set_option maxHeartbeats 2000000
set_option autoImplicit false
namespace Lf
open PySem L2
/-- a comprehension bound to a name that is no plain local -/
theorem sw_lc {elt : Expr} {gens : List Comprehension} {scope : Scope} {pos : Pos} {t : Str} {p : Pos} {n : Nat} {env : Env} (h : (env.kindOf t == some .local) = false) : swapsWith (.ListComp elt gens scope pos) (some (.Name t p)) n env = pure false := by
  show (pure (env.blockKind == .function && env.kindOf t == some .local && p.line == pos.line && !(scope.names.any fun (x : Str × NameKind) => x.1 == t && (x.2 == .local || x.2 == .cell))) : Sem Bool) = pure false
  rw [h, Bool.and_false, Bool.false_and, Bool.false_and]
/-! ### own things as values that stay, while nothing changes -/
def frzE : Option E → Option E
  | some (.ownI ns) => some (.v .imm (.il ns))
  | some (.own _ ds) => some (.v .imm (.lst ds))
  | some (.tr _ g) => some (.v .imm (erase g))
  | some (.v l d) => some (.v l d)
  | _ => none
theorem frzE_v {o : Option E} {e : E} (h : frzE o = some e) : ∃ l d, e = .v l d := by
  unfold frzE at h
  split at h <;> first | (cases h; exact ⟨_, _, rfl⟩) | cases h
theorem Fr.frz {K : PySem.W.Frag} {T : W3} {σ : L2.St} {ρ : PEnv} (F : Fr K T σ ρ) : Fr K ⟨T.h, T.n, T.h⟩ σ (ρ.map frzE) := by
  have get : ∀ {i : Nat} {e : E}, (ρ.map frzE)[i]? = some (some e) → ∃ o, ρ[i]? = some o ∧ frzE o = some e := fun {i e} h => by
    rw [List.getElem?_map] at h
    cases q : ρ[i]? with
    | none => rw [q] at h; cases h
    | some o => rw [q] at h; exact ⟨o, rfl, Option.some.inj h⟩
  have nv : ∀ {i : Nat} {e : E}, (ρ.map frzE)[i]? = some (some e) → ∃ l d, e = .v l d := fun {i e} h => by
    obtain ⟨o, _, h2⟩ := get h
    exact frzE_v h2
  refine ⟨⟨F.ok.ni.trans F.ok.ih, Same.refl _⟩, by rw [List.length_map]; exact F.len, fun i e h => ?_, fun i j e e' a h1 h2 o1 => ?_, fun i j e e' a h1 h2 m1 => ?_, fun i j e e' a h1 h2 m1 => ?_⟩
  · obtain ⟨o, h1, h2⟩ := get h
    cases o with
    | none => cases h2
    | some e0 =>
      obtain ⟨v, h3, h4⟩ := F.val i e0 h1
      refine ⟨v, h3, ?_⟩
      cases e0 with
      | v l d =>
        cases h2
        refine ⟨h4.1, ?_⟩
        cases l with
        | full => exact absurd rfl h4.1
        | imm => exact h4.2.mono F.ok.ih
        | frs => exact h4.2
      | ownI ns =>
        cases h2
        obtain ⟨a, rfl, h5, _⟩ := h4
        exact ⟨by decide, .il h5⟩
      | own l ds =>
        cases h2
        obtain ⟨_, a, vs, rfl, h5, _, r⟩ := h4
        exact ⟨by decide, .lst h5 (r.mono F.ok.full)⟩
      | tr l g =>
        cases h2
        exact ⟨by decide, h4.2.1.rp (F.ok.full (a := l)) fun _ _ => rfl⟩
      | dI _ _ => cases h2
      | dT _ _ => cases h2
      | dF _ _ _ _ _ => cases h2
  · obtain ⟨l, d, rfl⟩ := nv h1
    cases o1
  · obtain ⟨l, d, rfl⟩ := nv h1
    cases m1
  · obtain ⟨l, d, rfl⟩ := nv h1
    cases m1
section
variable {X : Cx} {e a b c : Expr} {es : List Expr} {ρ ρ1 : PEnv} {d d1 d2 d3 : D} {l la lb lc : Lv} {pos p p2 : Pos} {i j k : Int} {ns ms : List Int} {ds fs : List D} {kt : Nat} {x y z : Str} {st : Stmt} {sts : List Stmt} {P : PEnds}
theorem JE.frz (h : JE X .frs e ρ1 d) (hr : ρ1 = ρ.map frzE := by rfl) : JE X .frs e ρ d := fun T σ Q F q => by
  subst hr
  refine h ⟨T.h, T.n, T.h⟩ σ Q F.frz fun v T' g r => ?_
  have sn : Same T.i T'.h := F.ok.ih.trans g.ex
  have sm : Same T'.n T'.h := g.ok.ni.trans g.ok.ih
  have fr : ∀ a, T.i a = none → T.h a ≠ none → T'.n a = none := fun a h1 h2 => g.fn a (F.ok.n_none' h1) h2
  refine q v ⟨uni T.i T'.n, T'.n, T'.h⟩ ⟨⟨uni_rc sn sm, uni_to sn sm⟩, g.ex, uni_l, g.xn, fun a h1 h2 => ?_, fun a h1 h2 => g.fn a h1 h2⟩ r
  show uni T.i T'.n a = none
  rw [uni_right h1]
  exact fr a h1 h2
theorem JT.frz {v : Bool} (h : JT X e ρ1 v) (hr : ρ1 = ρ.map frzE := by rfl) : JT X e ρ v := fun T σ Q F q => by
  subst hr
  refine h ⟨T.h, T.n, T.h⟩ σ Q F.frz fun T' g => ?_
  have sn : Same T.i T'.h := F.ok.ih.trans g.ex
  have sm : Same T'.n T'.h := g.ok.ni.trans g.ok.ih
  refine q ⟨uni T.i T'.n, T'.n, T'.h⟩ ⟨⟨uni_rc sn sm, uni_to sn sm⟩, g.ex, uni_l, g.xn, fun a h1 h2 => ?_, fun a h1 h2 => g.fn a h1 h2⟩
  show uni T.i T'.n a = none
  rw [uni_right h1]
  exact g.fn a (F.ok.n_none' h1) h2
/-! ### list(range(..)) -/
theorem rgV_rngI (lo hi : Int) : rgV lo hi = (rngI lo (hi - lo).toNat).map V.int := by
  unfold rgV rngI
  rw [List.map_map]
  rfl
theorem joi_listRg {p1 p2 : Pos} (hm : X.mg "list" = none) (hm2 : X.mg "range" = none) (ha : JE X la a ρ (.int i)) (hz : 0 ≤ i ∧ i ≤ 100000) (hc : X.calm = true := by rfl) (hg : Gl X "list" := by rfl) (hg2 : Gl X "range" := by rfl)
    (n1 : starEach [a] X.env = (false, eval a X.env) :: starEach [] X.env := by exact star_c rfl) : JOI X (.Call (.Name "list" p) [.Call (.Name "range" p1) [a] [] p2] [] pos) ρ (rngI 0 i.toNat) :=
  JOI.of (pe_listRg hc hg hm (prg_1 hg2 hm2 pe_w n1) (star_c rfl)) fun T σ Q F q => ha T σ _ F fun v T1 g1 r1 => by
    cases r1
    refine ⟨i, rfl, RgOk.of_le (by omega) (by omega) (by omega) (by omega), fun r hr => ?_⟩
    rw [rgV_rngI, Int.sub_zero]
    exact q r (T1.put r _) (g1.trans (Grow.put g1.ok hr)) (Same.free g1.ex hr) (g1.ok.i_none hr) upd_same
theorem joi_listRg2 {p1 p2 : Pos} (hm : X.mg "list" = none) (hm2 : X.mg "range" = none) (ha : JE X la a ρ (.int i)) (hb : JE X lb b ρ (.int j)) (hz : 0 ≤ i ∧ i ≤ 100000 ∧ 0 ≤ j ∧ j ≤ 100000) (hc : X.calm = true := by rfl) (hg : Gl X "list" := by rfl) (hg2 : Gl X "range" := by rfl)
    (n1 : starEach [a, b] X.env = (false, eval a X.env) :: starEach [b] X.env := by exact star_c rfl) (n2 : starEach [b] X.env = (false, eval b X.env) :: starEach [] X.env := by exact star_c rfl) (hp : (backTo p2 (starEach [b] X.env)).any (·.1) = false := by exact back_ns rfl) :
    JOI X (.Call (.Name "list" p) [.Call (.Name "range" p1) [a, b] [] p2] [] pos) ρ (rngI i (j - i).toNat) :=
  JOI.of (pe_listRg hc hg hm (prg_2 hg2 hm2 pe_w pe_w n1 n2 hp) (star_c rfl)) fun T σ Q F q => ha T σ _ F fun v T1 g1 r1 => by
    cases r1
    refine hb T1 σ _ (F.grow g1) fun u T2 g2 r2 => ?_
    cases r2
    have g := g1.trans g2
    refine ⟨i, j, rfl, rfl, RgOk.of_le (by omega) (by omega) (by omega) (by omega), fun r hr => ?_⟩
    rw [rgV_rngI]
    exact q r (T2.put r _) (g.trans (Grow.put g.ok hr)) (Same.free g.ex hr) (g.ok.i_none hr) upd_same
/-! ### names bound to comprehensions over ints -/
def dF (f : Int → Int) (d : D) : Int := match d with | .int k => f k | _ => 0
theorem dF_map (f : Int → Int) (ns : List Int) : ((ns.map D.int).filter fun _ => true).map (dF f) = ns.map f := by
  rw [List.filter_eq_self.mpr (fun _ _ => rfl), List.map_map]
  rfl
theorem js_mapVI (m : Nat) {scope : Scope} {elt tg iter : Expr} {w : Str} {n : Nat} {f : Int → Int} {py : Pos} {spos : Pos} (hi : JI X tg iter .frs ρ (ns.map D.int))
    (hg : ∀ k s H C cl fp, JGb (Blk X s H scope C cl fp) tg .frs (.int k) [n] (wipeE ρ n) ((wipeE ρ n).set n (some (.v .frs (.int k)))))
    (he : ∀ k, k ∈ ns → ∀ s H C cl fp, JE (Blk X s H scope C cl fp) .frs elt ((wipeE ρ n).set n (some (.v .frs (.int k)))) (.int (f k))) (h : P.nx (ρ.set m (some (.v .frs (.il (ns.map f)))))) (hN : X.N.Nodup) (ok : BlkOk X.N X.env.scope scope [(w, n)]) (hz : ns.length ≤ 100000)
    (hy : X.N[m]? = some y := by rfl) (hyl : X.env.scope.names.lookup y = some .local := by rfl) (hsw : swapsWith (.ListComp elt [⟨tg, iter, [], 0⟩] scope pos) (some (.Name y py)) spos.line X.env = pure true := by exact sw_true rfl rfl rfl (by decide +kernel))
    (hc : X.calm = true := by rfl) (hs : ∀ x, foldedSetIterable iter X.env x = pure x := by exact fs_ns rfl) : JS X (.Assign [.Name y py] (.ListComp elt [⟨tg, iter, [], 0⟩] scope pos) spos) P ρ := by
  have q := js_lcVI (X := X) (P := P) (ρ := ρ) m (own := [(w, n)]) (Tst := fun _ => true) (f := dF f) (ρd := fun d => (wipeE ρ n).set n (some (.v .frs d))) (pos := pos) (py := py) (spos := spos) hi
    (fun d hd s H C cl fp => by
      obtain ⟨k, _, rfl⟩ := List.mem_map.mp hd
      exact hg k s H C cl fp)
    (fun _ _ _ _ _ _ _ => jts_nil)
    (fun d hd _ s H C cl fp => by
      obtain ⟨k, hk, rfl⟩ := List.mem_map.mp hd
      exact he k hk s H C cl fp) (by rw [dF_map]; exact h) hN ok (by rw [List.length_map]; exact hz) hy hyl hsw hc hs
  exact q
end
end Lf

set_option Elab.async false
set_option linter.all false
set_option maxRecDepth 100000
set_option maxHeartbeats 2000000
set_option autoImplicit false
namespace Lf
open PySem L2
/-- the promise of a def that comes to a value, or raises an exception of a class -/
def spE (K : PySem.W.Frag) (pre : List D → Prop) (R : List D → D ⊕ Value) : Sp := fun vs H Q E => ∃ ds, RpAll K H vs ds ∧ pre ds ∧
  (∀ d, R ds = .inl d → ∀ v H' Hn, Same H H' → Same Hn H' → (∀ a, Hn a ≠ none → H a = none) → Rp K Hn v d → Q v H') ∧
  (∀ C, R ds = .inr C → ∀ H', Same H H' → E C none H')
structure CalleeE (P : Program) (w : World) (K : PySem.W.Frag) (mg : Str → Option Value) (base : Heap) (k : Nat) (x : Str) (pre : List D → Prop) (R : List D → D ⊕ Value) : Prop where
  ex : ∃ (f : Addr) (fd : FuncData) (ps : List Str), FnOk P w K mg base (L2N.CX P w) k f fd ps (spE K pre R) ∧ mg x = some (.ref f) ∧ PySem.W.keepIn K (.ref f) = true ∧ Binds K fd ps []
/-- the same, the function known by its address -/
structure CalleeEA (P : Program) (w : World) (K : PySem.W.Frag) (mg : Str → Option Value) (base : Heap) (k : Nat) (f : Addr) (pre : List D → Prop) (R : List D → D ⊕ Value) : Prop where
  ex : ∃ (fd : FuncData) (ps : List Str), FnOk P w K mg base (L2N.CX P w) k f fd ps (spE K pre R) ∧ PySem.W.keepIn K (.ref f) = true ∧ Binds K fd ps []
structure CalleeA (P : Program) (w : World) (K : PySem.W.Frag) (mg : Str → Option Value) (base : Heap) (k : Nat) (f : Addr) (pre : List D → Prop) (G : List D → D) : Prop where
  ex : ∃ (fd : FuncData) (ps : List Str), FnOk P w K mg base CX0 k f fd ps (spF K pre G) ∧ PySem.W.keepIn K (.ref f) = true ∧ Binds K fd ps []
section
variable {X : Cx} {e a b c fe : Expr} {es : List Expr} {ρ ρ1 : PEnv} {d d1 d2 d3 : D} {l la lb lc : Lv} {pos p p2 : Pos} {i j k : Int} {ns ms : List Int} {ds fs : List D} {kt : Nat} {x y z : Str} {st : Stmt} {sts : List Stmt} {P : PEnds} {W : WX} {C : Value}
/-- e raises an exception of C -/
def JX (X : Cx) (W : WX) (C : Value) (e : Expr) (ρ : PEnv) : Prop := ∀ (T : W3) (σ : L2.St) (Q : VK), Fr X.K T σ ρ → (∀ T', Grow T T' → W C none σ T'.h) → wE X e σ T.h Q
def JSX (X : Cx) (W : WX) (C : Value) (st : Stmt) (ρ : PEnv) : Prop := ∀ (T : W3) (σ : L2.St) (D : Ends), Fr X.K T σ ρ → (∀ T' σ', Gw T T' → W C none σ' T'.h) → wS X st D σ T.h
def JSsX (X : Cx) (W : WX) (C : Value) (sts : List Stmt) (ρ : PEnv) : Prop := ∀ (T : W3) (σ : L2.St) (D : Ends), Fr X.K T σ ρ → (∀ T' σ', Gw T T' → W C none σ' T'.h) → wSs X sts D σ T.h
theorem JX.of {te : TE} (h : PE X e te) (r : ∀ (T : W3) (σ : L2.St) (Q : VK), Fr X.K T σ ρ → (∀ T', Grow T T' → W C none σ T'.h) → te σ T.h Q) : JX X W C e ρ := fun T σ Q F q pins s I => h.run pins s σ T.h Q I (r T σ Q F q)
theorem JSX.of {ts : TS} (h : PS X st ts) (r : ∀ (T : W3) (σ : L2.St) (D : Ends), Fr X.K T σ ρ → (∀ T' σ', Gw T T' → W C none σ' T'.h) → ts D σ T.h) : JSX X W C st ρ := fun T σ D F q pins s I => h.run pins s σ T.h D I (r T σ D F q)
theorem JSsX.of {ts : TS} (h : PSs X sts ts) (r : ∀ (T : W3) (σ : L2.St) (D : Ends), Fr X.K T σ ρ → (∀ T' σ', Gw T T' → W C none σ' T'.h) → ts D σ T.h) : JSsX X W C sts ρ := fun T σ D F q pins s I => h.run pins s σ T.h D I (r T σ D F q)
/-- the call of a function that is a value -/
theorem pe_callV {CX : CXT} {k : Nat} {f : Addr} {fd : FuncData} {ps : List Str} {sp : Sp} {E : L2.St → XK} {tf : TE} {t : TA} (F : FnOk X.prog X.w X.K X.mg X.base CX k f fd ps sp) (hr : Room k X.A) (hk : PySem.W.keepIn X.K (.ref f) = true) (hb : Binds X.K fd ps []) (hx : ∀ σ, PassesAt CX X σ (E σ))
    (hf : PE X fe tf) (ha : PA X (e :: es) t)
    (hev : eval (.Call fe (e :: es) [] pos) X.env = (do callWith pos (← eval fe X.env) [] (backTo pos (starEach (e :: es) X.env)) (backToKw pos (keywordEach [] X.env))))
    (he : starEach (e :: es) X.env = (false, eval e X.env) :: starEach es X.env) (hpl : (backTo pos (starEach es X.env)).any (·.1) = false) :
    PE X (.Call fe (e :: es) [] pos) (fun σ H Q => tf σ H fun x H1 => x = .ref f ∧ t σ H1 fun vs H2 => sp vs H2 Q (E σ)) := by
  refine ⟨fun pins s σ H Q I h => ?_⟩
  rw [hev]
  refine wpAny_bind (thn (hf.run pins s σ H _ I h) fun v s1 h1 => ?_)
  obtain ⟨v', H1, I1, rx, ex, q⟩ := h1
  subst ex
  cases rx
  refine PySem.W.callWith_K (h₀ := X.base) I.ok.mod.kin hk (thn (ha.run pos pins s1 σ H1 _ I1 q) fun us s2 ⟨vs, H2, I2, r, q2⟩ => ⟨I2.kIn, ?_⟩) he hpl
  exact run_fnS F hr hb (hx σ) I2 r q2
theorem passE {σ : L2.St} {E : XK} : PassesAt CX0 X σ E := fun _ _ _ _ _ _ h => h.elim
theorem spE_ok {vs : List V} {T T1 : W3} {Q : VK} {E : XK} {pre : List D → Prop} {R : List D → D ⊕ Value} (g1 : Grow T T1) (r1 : RpAll X.K T1.h vs ds) (hp : pre ds) (hq : R ds = .inl d) (q : ∀ v T', Grow T T' → Rp X.K (T'.at .frs) v d → Q v T'.h) : spE X.K pre R vs T1.h Q E :=
  ⟨ds, r1, hp, fun d' e' v H' Hn h1 h2 dj rv => by
    rw [hq] at e'
    cases e'
    exact q v ⟨uni T1.i Hn, uni T1.n Hn, H'⟩ (g1.trans (Grow.called g1.ok h1 h2 dj)) (rv.mono (uni_r fun a h => g1.ok.n_none (dj a h))), fun C e' => by rw [hq] at e'; cases e'⟩
theorem spE_no {vs : List V} {T T1 : W3} {Q : VK} {E : XK} {pre : List D → Prop} {R : List D → D ⊕ Value} (g1 : Grow T T1) (r1 : RpAll X.K T1.h vs ds) (hp : pre ds) (hq : R ds = .inr C) (q : ∀ T', Grow T T' → E C none T'.h) : spE X.K pre R vs T1.h Q E :=
  ⟨ds, r1, hp, (fun d' e' => by rw [hq] at e'; cases e'), fun C' e' H' sm => by
    rw [hq] at e'
    cases e'
    exact q ⟨uni T1.i fun _ => none, uni T1.n fun _ => none, H'⟩ (g1.trans (Grow.called g1.ok sm (fun _ _ z => nomatch z) fun a z => absurd rfl z))⟩
theorem je_callE {m n : Nat} {pre : List D → Prop} {R : List D → D ⊕ Value} (tk : L2N.Takes X W) (C : CalleeE X.prog X.w X.K X.mg X.base m x pre R) (hr : Room n X.A) (ha : JA X .full (e :: es) ρ ds) (hp : pre ds) (hq : R ds = .inl d) (hk : m ≤ n := by decide) (hg : Gl X x := by rfl) (hdb : (x == ("__debug__" : Str)) = false := by decide)
    (he : starEach (e :: es) X.env = (false, eval e X.env) :: starEach es X.env := by exact star_c rfl) (hpl : (backTo pos (starEach es X.env)).any (·.1) = false := by exact back_ns rfl) : JE X .frs (.Call (.Name x p) (e :: es) [] pos) ρ d := by
  obtain ⟨f, fd, ps, F, hm, hkp, hb⟩ := C.ex
  exact JE.of (pe_callS (E := L2.WE W) F (hr.mono hk) hg hm hkp hb (fun σ => L2N.passAt tk σ) pa_w hdb he hpl) fun T σ Q Fm q => ha T σ _ Fm fun vs T1 g1 r1 => spE_ok g1 r1 hp hq q
theorem jx_call {m n : Nat} {pre : List D → Prop} {R : List D → D ⊕ Value} (tk : L2N.Takes X W) (Cl : CalleeE X.prog X.w X.K X.mg X.base m x pre R) (hr : Room n X.A) (ha : JA X .full (e :: es) ρ ds) (hp : pre ds) (hq : R ds = .inr C) (hk : m ≤ n := by decide) (hg : Gl X x := by rfl) (hdb : (x == ("__debug__" : Str)) = false := by decide)
    (he : starEach (e :: es) X.env = (false, eval e X.env) :: starEach es X.env := by exact star_c rfl) (hpl : (backTo pos (starEach es X.env)).any (·.1) = false := by exact back_ns rfl) : JX X W C (.Call (.Name x p) (e :: es) [] pos) ρ := by
  obtain ⟨f, fd, ps, F, hm, hkp, hb⟩ := Cl.ex
  exact JX.of (pe_callS (E := L2.WE W) F (hr.mono hk) hg hm hkp hb (fun σ => L2N.passAt tk σ) pa_w hdb he hpl) fun T σ Q Fm q => ha T σ _ Fm fun vs T1 g1 r1 => spE_no g1 r1 hp hq q
/-- a function that is a value -/
theorem jx_callV {m n : Nat} {f : Addr} {pre : List D → Prop} {R : List D → D ⊕ Value} (tk : L2N.Takes X W) (hf : JE X l fe ρ (.ptr f)) (Cl : CalleeEA X.prog X.w X.K X.mg X.base m f pre R) (hr : Room n X.A) (ha : JA X .full (e :: es) ρ ds) (hp : pre ds) (hq : R ds = .inr C) (hk : m ≤ n := by decide)
    (hev : eval (.Call fe (e :: es) [] pos) X.env = (do callWith pos (← eval fe X.env) [] (backTo pos (starEach (e :: es) X.env)) (backToKw pos (keywordEach [] X.env))) := by rfl)
    (he : starEach (e :: es) X.env = (false, eval e X.env) :: starEach es X.env := by exact star_c rfl) (hpl : (backTo pos (starEach es X.env)).any (·.1) = false := by exact back_ns rfl) : JX X W C (.Call fe (e :: es) [] pos) ρ := by
  obtain ⟨fd, ps, F, hkp, hb⟩ := Cl.ex
  exact JX.of (pe_callV (E := L2.WE W) F (hr.mono hk) hkp hb (fun σ => L2N.passAt tk σ) pe_w pa_w hev he hpl) fun T σ Q Fm q => hf T σ _ Fm fun v T0 g0 r0 => by
    cases r0
    exact ⟨rfl, ha T0 σ _ (Fm.grow g0) fun vs T1 g1 r1 => spE_no (g0.trans g1) r1 hp hq q⟩
theorem je_callV {m n : Nat} {f : Addr} {pre : List D → Prop} {G : List D → D} (hf : JE X l fe ρ (.ptr f)) (Cl : CalleeA X.prog X.w X.K X.mg X.base m f pre G) (hr : Room n X.A) (ha : JA X .full (e :: es) ρ ds) (hp : pre ds) (hq : G ds = d := by rfl) (hk : m ≤ n := by decide)
    (hev : eval (.Call fe (e :: es) [] pos) X.env = (do callWith pos (← eval fe X.env) [] (backTo pos (starEach (e :: es) X.env)) (backToKw pos (keywordEach [] X.env))) := by rfl)
    (he : starEach (e :: es) X.env = (false, eval e X.env) :: starEach es X.env := by exact star_c rfl) (hpl : (backTo pos (starEach es X.env)).any (·.1) = false := by exact back_ns rfl) : JE X .frs (.Call fe (e :: es) [] pos) ρ d := by
  subst hq
  obtain ⟨fd, ps, F, hkp, hb⟩ := Cl.ex
  exact JE.of (pe_callV (E := fun _ => E0) F (hr.mono hk) hkp hb (fun σ => passE) pe_w pa_w hev he hpl) fun T σ Q Fm q => hf T σ _ Fm fun v T0 g0 r0 => by
    cases r0
    exact ⟨rfl, ha T0 σ _ (Fm.grow g0) fun vs T1 g1 r1 => ⟨ds, r1, hp, fun v H' Hn h1 h2 dj rv => q v ⟨uni T1.i Hn, uni T1.n Hn, H'⟩ ((g0.trans g1).trans (Grow.called g1.ok h1 h2 dj)) (rv.mono (uni_r fun a h => g1.ok.n_none (dj a h)))⟩⟩
/-- a function's name -/
theorem je_fun {f : Addr} (hm : X.mg x = some (.ref f)) (hg : Gl X x := by rfl) (hd : (x == ("__debug__" : Str)) = false := by decide) : JE X .frs (.Name x pos) ρ (.ptr f) :=
  JE.of (pe_glob (v := .ref f) hg hm rfl hd) fun T σ Q F q => q (.ref f) T (Grow.refl F.ok) (.ptr f)
/-- {} -/
theorem je_dic : JE X .frs (.Dict [] [] pos) ρ .dic := JE.of pe_dnewK fun T σ Q F q => fun a ha => by
  have g : Grow T (T.put a (.dK [])) := Grow.put F.ok ha
  exact q (.ref a) ((T.put a (.dK [])).fix a _) (g.fix ha (F.ok.i_none ha) upd_same) (.dic upd_same)
theorem jx_if {v : Bool} (h : JT X c ρ v) (h1 : v = true → JX X W C a ρ) (h2 : v = false → JX X W C b ρ) : JX X W C (.IfExp c a b pos) ρ :=
  JX.of (pe_ifExp pt_w pe_w pe_w) fun T σ Q F q => h T σ _ F fun T1 g1 => by
    cases v with
    | true => exact iteT (h1 rfl T1 σ _ (F.grow g1) fun T2 g2 => q T2 (g1.trans g2))
    | false => exact iteF (h2 rfl T1 σ _ (F.grow g1) fun T2 g2 => q T2 (g1.trans g2))
/-- [e, ..] -/
theorem jx_lst (h : JX X W C e ρ) (hs : starEach (e :: es) X.env = (false, eval e X.env) :: starEach es X.env := by exact star_c rfl) : JX X W C (.List (e :: es) pos) ρ :=
  JX.of (pe_lst (pa_cons pe_w (pa_w (es := es)) hs)) fun T σ Q F q => h T σ _ F q
theorem jsx_expr (he : JX X W C e ρ) (hs : swapsWith e none pos.line X.env = pure false := by exact sw_ns rfl) : JSX X W C (.Expr e pos) ρ :=
  JSX.of (ps_expr pe_w hs) fun T σ D F q => he T σ _ F fun T' g => q T' σ g.w
theorem jsx_ret (he : JX X W C e ρ) : JSX X W C (.Return (some e) pos) ρ := JSX.of (ps_ret pe_w) fun T σ D F q => he T σ _ F fun T' g => q T' σ g.w
theorem jsx_if {v : Bool} {s1 s2 : List Stmt} (hc : JT X c ρ v) (h1 : v = true → JSsX X W C s1 ρ) (h2 : v = false → JSsX X W C s2 ρ) : JSX X W C (.If c s1 s2 pos) ρ :=
  JSX.of (ps_if pt_w pss_w pss_w) fun T σ D F q => hc T σ _ F fun T1 g1 => by
    cases v with
    | true => exact iteT (h1 rfl T1 σ D (F.grow g1) fun T' σ' g => q T' σ' (g1.w.trans g))
    | false => exact iteF (h2 rfl T1 σ D (F.grow g1) fun T' σ' g => q T' σ' (g1.w.trans g))
theorem jssx_head (h : JSX X W C st ρ) : JSsX X W C (st :: sts) ρ := JSsX.of (pss_cons ps_w pss_w) fun T σ D F q => h T σ _ F q
theorem jssx_tail (h : JS X st { nx := fun ρ' => JSsX X W C sts ρ', rt := fun _ => False } ρ) : JSsX X W C (st :: sts) ρ :=
  JSsX.of (pss_cons ps_w pss_w) fun T σ D F q => h T σ _ F ⟨fun ρ' σ' T' g F' j => j T' σ' D F' fun T2 σ2 g2 => q T2 σ2 (g.trans g2), fun d v T' g z => z.elim, fun _ _ _ _ _ z => z.elim, fun _ _ _ _ _ z => z.elim, fun _ _ _ _ z => z.elim, fun _ _ _ _ _ _ _ z => z.elim⟩
/-- an own class of exceptions -/
structure ExcK (K : PySem.W.Frag) (mg : Str → Option Value) (x : Str) (C : Addr) : Prop where
  ex : PySem.W.excIn K C [.type "ValueError", .type "Exception", .type "BaseException", .type "object"] "ValueError.__new__" = true
  g : mg x = some (.ref C)
  k : PySem.W.keepIn K (.ref C) = true
  b : PySem.W.subIn K (.ref C) (.type "BaseException") = some true
  t : PySem.W.typeIn K (.ref C) = some (.type "type")
theorem jsx_raise {C : Addr} {m : Str} {j : Nat} {p2 pos' : Pos} (tk : L2N.Takes X W) (T : ExcK X.K X.mg x C) (hc : X.calm = true := by rfl) (hg : Gl X x := by rfl) (hdb : (x == ("__debug__" : Str)) = false := by decide) : JSX X W (.ref C) (.Raise (some (.Call (.Name x p) [.Constant (.str m) j p2] [] pos)) none pos') ρ :=
  JSX.of (L2N.ps_raise hc tk (L2N.pmk_own PySem.F.excBase_ValueError T.ex T.g T.k (raises_own T.b T.t) hg hdb)) fun T σ D F q => q T σ (Gw.refl F.ok)
/-- THE RULE for a def that may raise -/
theorem fn_okE {P : Program} {w : World} {K : PySem.W.Frag} {mg : Str → Option Value} {base : Heap} {x qual : Str} {st : Stmt} {f : Addr} {fd : FuncData} {N ps : List Str} {k : Nat} {pre : List D → Prop} {R : List D → D ⊕ Value} (F : Fun K x qual st f fd) (S : FnScope N ps (defScope st))
    (hpre : ∀ ds, pre ds → ds.length = ps.length)
    (body : ∀ (cdv : Value) (A : Around) (outer : List Env) (s : Shared) (H : Hp) (E : XK), Room k (A.deeper (PyProof.Rows.envOfC qual (defScope st) s.heap.objs.size f cdv)) →
      L2N.Takes (cxOf (L2N.CX P w) P w K mg base N qual (defScope st) f cdv A outer s H E) (fun cls d _ H => E cls d H) → ∀ ds, pre ds →
      (∀ d, R ds = .inl d → JSs (cxOf (L2N.CX P w) P w K mg base N qual (defScope st) f cdv A outer s H E) (defBody st) { nx := fun _ => d = .non, rt := fun d' => d' = d } (startE N.length ds)) ∧
      (∀ C, R ds = .inr C → JSsX (cxOf (L2N.CX P w) P w K mg base N qual (defScope st) f cdv A outer s H E) (fun cls d _ H => E cls d H) C (defBody st) (startE N.length ds))) :
    FnOk P w K mg base (L2N.CX P w) (k + 1) f fd ps (spE K pre R) := by
  obtain ⟨oc, od, kV, doc, pm, an, cdv, ct, osl, rfl, lk, hcd⟩ := F.ex
  refine fn_of lk hcd S (fun vs H Q E ⟨ds, r, hp, _⟩ => by rw [r.length]; exact hpre ds hp) fun A outer s H vs Q E hr ⟨ds, r, hp, q, qx⟩ => ?_
  have hlen : ds.length ≤ N.length := by
    rw [hpre ds hp]
    have := congrArg List.length S.pre
    rw [List.length_take] at this
    omega
  obtain ⟨b1, b2⟩ := body cdv A outer s H E hr (L2N.takes_of rfl rfl rfl rfl) ds hp
  refine ⟨_, pss_w, ?_⟩
  cases hR : R ds with
  | inr C => exact b2 C hR ⟨H, fun _ => none, H⟩ _ _ (fr_start r hlen) fun T' σ' g => qx C hR T'.h (g.xi.trans g.ok.ih)
  | inl d =>
    refine b1 d hR ⟨H, fun _ => none, H⟩ _ _ (fr_start r hlen) ⟨fun ρ σ T' g F' e => ?_, fun d' v T' g e rv => ?_, fun ρ σ T' g F' z => z.elim, fun ρ σ T' g F' z => z.elim, fun _ _ _ _ z => z.elim, fun _ _ _ _ _ _ _ z => z.elim⟩
    · refine q d hR .non T'.h T'.n (g.xi.trans g.ok.ih) (g.ok.ni.trans g.ok.ih) (fun a h => ?_) (by rw [e]; exact .non)
      cases z : H a with
      | none => rfl
      | some o => exact absurd (g.fn a rfl (by show H a ≠ none; rw [z]; intro y; cases y) (by show H a ≠ none; rw [z]; intro y; cases y)) h
    · subst e
      refine q d' hR v T'.h T'.n (g.xi.trans g.ok.ih) (g.ok.ni.trans g.ok.ih) (fun a h => ?_) rv
      cases z : H a with
      | none => rfl
      | some o => exact absurd (g.fn a rfl (by show H a ≠ none; rw [z]; intro y; cases y) (by show H a ≠ none; rw [z]; intro y; cases y)) h
end
end Lf

set_option Elab.async false
set_option linter.all false
set_option maxRecDepth 100000
set_option maxHeartbeats 2000000
set_option autoImplicit false
namespace Lf
open PySem L2 L2H
section
variable {X : Cx} {p : Addr × Obj} {pins : List (Addr × Obj)} {σ σ' : L2.St} {H H' : Hp} {s s' : Shared} {scope : Scope} {ce : Env} {fp : List Addr}
/-- what a context says of a thing that is kept aside -/
abbrev Aside (Y : Cx) (H : Hp) (s : Shared) (p : Addr × Obj) : Prop := s.heap.get? p.1 = some p.2 ∧ H p.1 = none ∧ p.1 ≠ Y.env.locals ∧ p.1 ∉ Y.fs ∧ ∀ v, p.2.data ≠ .cell v
/-- what is aside of a def's context stays aside in its block -/
theorem aside_blk (I : Inv X pins σ H s) (hp : p ∈ X.pn) (hne : ∀ b, b ∈ fp → p.1 ≠ b) (hL : ce.locals = s.heap.objs.size) (J : Inv (X.blk s H scope ce fp) [] σ' H' s') : Aside (X.blk s H scope ce fp) H' s' p := by
  have a := I.pin p (List.mem_append_left _ hp)
  have nf : p.1 ∉ frs X.stack := by
    intro hm
    obtain ⟨u, hu, hq⟩ := List.mem_filterMap.mp hm
    have out : u ∈ X.outer → False := fun z => a.2.2.2.1 (List.mem_filterMap.mpr ⟨u, z, hq⟩)
    cases I.ok.stk with
    | inl z => exact out (z ▸ hu)
    | inr z =>
      have hu' : u ∈ X.env :: X.outer := z.1 ▸ hu
      cases hu' with
      | head => exact a.2.2.1 (Option.some.inj (hq.symm.trans z.2))
      | tail _ z' => exact out z'
  have nx : p.1 ∉ fp := fun z => hne p.1 z rfl
  exact ⟨J.base.keep p.1 p.2 a.1 a.2.1 nf nx, J.base.free p.1 p.2 a.1 a.2.1 nx, fun z => Nat.lt_irrefl _ (by have := Heap.lt_size a.1; rw [show p.1 = s.heap.objs.size from z.trans hL] at this; exact this), nf, a.2.2.2.2⟩
/-- a context that keeps one thing aside, and nothing else -/
theorem inv_aside {Y : Cx} (J : Inv Y [] σ H s) (hY : Y.pn = []) (a : Aside Y H s p) : Inv (Y.tr [p] fun _ _ => False) [] σ H s :=
  ⟨J.ok.toTry _ _, J.os, J.bare, J.base, J.loc, J.cell, J.free, J.freeC, fun r hr => by
    have : r = p := by simpa using hr
    exact this ▸ a, J.hok, J.len⟩
theorem inv_unaside {Y : Cx} (J : Inv (Y.tr [p] fun _ _ => False) [] σ H s) (hY : Y.pn = []) : Inv Y [] σ H s :=
  ⟨J.ok.ofTry, J.os, J.bare, J.base, J.loc, J.cell, J.free, J.freeC, fun r hr => by
    exact absurd hr (by rw [hY]; simp), J.hok, J.len⟩
/-- the walk's own objects, seen from the block -/
theorem fp_blk {q : List (Addr × Obj)} (J : Inv (X.blk s H scope ce fp) [] σ' H' s') (hn : ∀ b ∈ fp, H' b = none) (hq : ∀ r, r ∈ q → ∀ b ∈ fp, r.1 ≠ b) : ∀ b ∈ fp, FpOk ((X.blk s H scope ce fp).tr q fun _ _ => False) [] H' b := fun b hb =>
  ⟨hn b hb, (J.ok.exf b hb).1, J.ok.exfs b hb, Or.inl hb, fun x c e => (J.ok.exf b hb).2 x c e, fun r hr => hq r (by simpa using hr) b hb⟩
/-- the new, empty list of a display -/
theorem inv_empty (I : Inv X pins σ H s) : Inv X pins σ (upd H s.heap.objs.size (.lst [])) { s with heap := s.heap.push { cls := .type "list", data := .seq ([] : List Value).toArray } } :=
  I.laid (t' := s.toks) (fun _ _ e => Heap.get?_push_of_some _ e) (Nat.le_refl _) ⟨Nat.zero_le _, [], 0, .nil, Heap.get?_push_size _ rfl⟩
end
theorem rngI_end (n : Nat) : rngI 0 (n + 1) = rngI 0 n ++ [(0 : Int) + (n : Int)] := by
  unfold rngI
  rw [List.range_succ, List.map_append]
  rfl
/-- what a display holds after j turns -/
structure Made (K : PySem.W.Frag) (T1 T2 : W3) (σ : L2.St) (ρ : PEnv) (D : Addr) (l' : Lv) (f : Int → Lf.D) (vs : List V) (j : Nat) : Prop where
  gs : Gs T1 T2
  sm : Same T1.h T2.h
  fr : Fr K T2 σ ρ
  i : T2.i D = none
  h : T2.h D = some (.lst vs)
  r : RpAll K (T2.at l') vs ((rngI 0 j).map f)
theorem Made.grow {K : PySem.W.Frag} {T1 T2 T3 : W3} {σ : L2.St} {ρ : PEnv} {D : Addr} {l' : Lv} {f : Int → Lf.D} {vs : List V} {j : Nat} (M : Made K T1 T2 σ ρ D l' f vs j) (g : Grow T2 T3) : Made K T1 T3 σ ρ D l' f vs j :=
  ⟨M.gs.trans g.s, M.sm.trans g.ex, M.fr.grow g, g.fi D M.i (by rw [M.h]; intro z; cases z), g.ex _ _ M.h, M.r.mono (g.at l')⟩
theorem Made.add {K : PySem.W.Frag} {T1 T2 : W3} {σ : L2.St} {ρ : PEnv} {D : Addr} {l' : Lv} {f : Int → Lf.D} {vs : List V} {j : Nat} {v : V} (hl : Lv.le l' .imm = true) (hD : T1.h D = none) (nO : NotOwn σ ρ D) (M : Made K T1 T2 σ ρ D l' f vs j) (r : Rp K (T2.at l') v (f ((0 : Int) + (j : Int)))) :
    Made K T1 (T2.put D (.lst (vs ++ [v]))) σ ρ D l' f (vs ++ [v]) (j + 1) := by
  refine ⟨M.gs.trans (Gs.put M.fr.ok M.i), same_into M.sm hD, M.fr.put M.i nO, M.i, upd_same, ?_⟩
  rw [rngI_end, List.map_append]
  have z := M.r.append (.cons r .nil)
  cases l' with
  | full => cases hl
  | imm => exact z
  | frs => exact z
section
variable {X : Cx} {a : Expr} {ρ : PEnv} {la : Lv} {p : Pos} {p2 pos : Pos} {i : Int} {x : Str} {scope : Scope} {elt tg : Expr}
theorem wipe_two (n : Nat) (σ : L2.St) : L2.wipe (L2.wipe σ [n]) [n] = L2.wipe σ [n] := by
  show (σ.set n none).set n none = σ.set n none
  rw [List.set_set]
/-- a comprehension over range(i), while an exception is handled -/
theorem jo_mapRH {n : Nat} {l' : Lv} {f : Int → D} (hot : HotC X) (hm : X.mg "range" = none) (ha : JE X la a ρ (.int i)) (hz : 0 ≤ i ∧ i ≤ 100000)
    (hg : ∀ k s H C cl fp, JGb (Blk X s H scope C cl fp) tg .frs (.int k) [n] (wipeE ρ n) ((wipeE ρ n).set n (some (.v .frs (.int k)))))
    (he : ∀ k, k ∈ rngI 0 i.toNat → ∀ s H C cl fp, JE (Blk X s H scope C cl fp) l' elt ((wipeE ρ n).set n (some (.v .frs (.int k)))) (f k)) (hN : X.N.Nodup) (ok : BlkOk X.N X.env.scope scope [(x, n)]) (hl' : Lv.le l' .imm = true := by rfl) (hgr : Gl X "range" := by rfl)
    (hs1 : starEach [a] X.env = [(false, eval a X.env)] := by exact star_1 rfl) (hs : ∀ x, foldedSetIterable (.Call (.Name "range" p) [a] [] p2) X.env x = pure x := by exact fs_ns rfl) :
    JO X l' (.ListComp elt [⟨tg, .Call (.Name "range" p) [a] [] p2, [], 0⟩] scope pos) ρ ((rngI 0 i.toNat).map f) := by
  intro T σ Q F q pins s I
  obtain ⟨e0, hp1, hpm⟩ := hot
  have walk := (pi_range1H (X := X) (tg := tg) (a := a) (p := p) (pos := p2) hgr hm (pa_cons pe_w pa_nil hs1) hs1).run pins s σ T.h (fun J H => J = Itr 0 i.toNat ∧ ∃ T1, Grow T T1 ∧ T1.h = H) I (ha T σ _ F fun v T1 g1 r1 => by
    cases r1
    exact ⟨i, rfl, by omega, by omega, rfl, T1, g1, rfl⟩)
  rw [eval_ListComp]
  refine wpAny_comprehension_free rfl hs (closure_ok fun y hy e => (ok.free y hy e).elim (fun k => I.ok.has _ (.inl k)) fun k => I.ok.has _ (.inr k)) ok.kind (fun y hy e => (ok.uniq y hy).trans (congrArg some e)) (thn walk fun _ _ h1 => thn h1 fun _ s2 h2 => ?_)
  obtain ⟨it, fp, tn, _, _, rfl, I2, TH, st2, fp2, rfl, T1, g1, rfl⟩ := h2
  refine wpAny_newObj_type (newEnv_comp ?_) (Nat.zero_le _)
  have F1 := F.grow g1
  have hD1 : T1.h s2.heap.objs.size = none := I2.hok.fresh (Nat.le_refl _)
  have I3 := inv_empty I2
  have below : ∀ b, b ∈ fp → b < s2.heap.objs.size := fun b hb => (TH.obj 0 _ st2 b hb).elim fun o h => Heap.lt_size h.1
  have up1 : ∀ b, b ∈ fp → (upd T1.h s2.heap.objs.size (.lst [])) b = none := fun b hb => (upd_ne (Nat.ne_of_lt (below b hb))).trans (fp2 b hb).1
  have I4 := block_start I3 ok hN (fp := fp) fun b hb => ⟨⟨up1 b hb, (fp2 b hb).2⟩, Nat.lt_of_lt_of_le (below b hb) (by rw [Heap.size_push]; exact Nat.le_succ _)⟩
  have st4 : tn 0 _ := TH.keep 0 s2.heap (pushCells ((s2.heap.push { cls := .type "list", data := .seq ([] : List Value).toArray }).push { cls := .type "dict", data := .dict #[] }) scope.names) st2 fun b _ o e => pushCells_keeps _ _ _ _ (Heap.get?_push_of_some _ (Heap.get?_push_of_some _ e))
  have far : ∀ b, b ∈ fp → e0.1 ≠ b := fun b hb => (fp2 b hb).2.2.2.2.2 e0 (List.mem_append_left _ hpm)
  have gg := fun k => hg k { s2 with heap := s2.heap.push { cls := .type "list", data := .seq ([] : List Value).toArray } } (upd T1.h s2.heap.objs.size (.lst [])) (s2.heap.push { cls := .type "list", data := .seq ([] : List Value).toArray }).objs.size (cellsFrom ((s2.heap.push { cls := .type "list", data := .seq ([] : List Value).toArray }).objs.size + 1) scope.names (cloFrom X.env.cells scope.names [])) fp
  have ee := fun k hk => he k hk { s2 with heap := s2.heap.push { cls := .type "list", data := .seq ([] : List Value).toArray } } (upd T1.h s2.heap.objs.size (.lst [])) (s2.heap.push { cls := .type "list", data := .seq ([] : List Value).toArray }).objs.size (cellsFrom ((s2.heap.push { cls := .type "list", data := .seq ([] : List Value).toArray }).objs.size + 1) scope.names (cloFrom X.env.cells scope.names [])) fp
  obtain ⟨s3, hs3⟩ : ∃ u : Shared, u = { s2 with heap := s2.heap.push { cls := .type "list", data := .seq ([] : List Value).toArray } } := ⟨_, rfl⟩
  obtain ⟨ce, hce⟩ : ∃ u : Env, u = compEnvC scope (cellsFrom ((s2.heap.push { cls := .type "list", data := .seq ([] : List Value).toArray }).objs.size + 1) scope.names (cloFrom X.env.cells scope.names [])) (s2.heap.push { cls := .type "list", data := .seq ([] : List Value).toArray }).objs.size X.env := ⟨_, rfl⟩
  obtain ⟨s4, hs4⟩ : ∃ u : Shared, u = { s2 with heap := pushCells ((s2.heap.push { cls := .type "list", data := .seq ([] : List Value).toArray }).push { cls := .type "dict", data := .dict #[] }) scope.names } := ⟨_, rfl⟩
  have turns : codeAny (model X.prog X.w) X.A (.compLoop (.ListComp elt [⟨tg, .Call (.Name "range" p) [a] [] p2, [], 0⟩] scope pos) 0 (.ref it) (.ref s2.heap.objs.size) ce) (compPost (model X.prog X.w) X.A X.xe none (EP X pins σ Q) (.ref s2.heap.objs.size) s3.heap.objs.size) s4 := by
    have J4 : L2.Inv (X.blk s3 (upd T1.h s2.heap.objs.size (.lst [])) scope ce fp) [] (L2.wipe σ [n]) (upd T1.h s2.heap.objs.size (.lst [])) s4 := by
      subst hs3 hce hs4
      exact I4
    have K3 : L2.Inv X pins σ (upd T1.h s2.heap.objs.size (.lst [])) s3 := by
      subst hs3
      exact I3
    have cL : ce.locals = s3.heap.objs.size := by
      subst hs3 hce
      rfl
    have tn4 : tn 0 s4.heap := by
      subst hs4
      exact st4
    have gb : ∀ k, JGb (X.blk s3 (upd T1.h s2.heap.objs.size (.lst [])) scope ce fp) tg .frs (.int k) [n] (wipeE ρ n) ((wipeE ρ n).set n (some (.v .frs (.int k)))) := fun k => by
      subst hs3 hce
      exact gg k
    have eb : ∀ k, k ∈ rngI 0 i.toNat → JE (X.blk s3 (upd T1.h s2.heap.objs.size (.lst [])) scope ce fp) l' elt ((wipeE ρ n).set n (some (.v .frs (.int k)))) (f k) := fun k hk => by
      subst hs3 hce
      exact ee k hk
    have nO : NotOwn σ ρ s2.heap.objs.size := F1.fresh hD1
    have hDi := F1.ok.i_none hD1
    clear I4 st4 gg ee I3 hs3 hce hs4
    have far' : ∀ r, r ∈ [e0] → ∀ b ∈ fp, r.1 ≠ b := fun r hr b hb => by
      rw [List.mem_singleton.mp hr]
      exact far b hb
    have hotY : HotC ((X.blk s3 (upd T1.h s2.heap.objs.size (.lst [])) scope ce fp).tr [e0] fun _ _ => False) := ⟨e0, hp1, List.mem_singleton.mpr rfl⟩
    refine compLoop_any (fun m u => ∃ (j : Nat) (T2 : W3) (vs : List V), m = i.toNat - j ∧ j ≤ i.toNat ∧ L2.Inv (X.blk s3 (upd T1.h s2.heap.objs.size (.lst [])) scope ce fp) [] (L2.wipe σ [n]) T2.h u ∧ tn j u.heap ∧ (∀ b ∈ fp, T2.h b = none) ∧ Made X.K T1 T2 σ ρ s2.heap.objs.size l' f vs j) (fun m s5 hI => ?_) i.toNat
      ⟨0, T1.put s2.heap.objs.size (.lst []), [], rfl, Nat.zero_le _, J4, tn4, up1, ⟨(Grow.put F1.ok hD1).s, same_new hD1, F1.put hDi nO, hDi, upd_same, .nil⟩⟩
    obtain ⟨j, T2, vs, rfl, hj, J5, t5, f5, M5⟩ := hI
    have J5' := inv_aside J5 rfl (aside_blk K3 hpm far cL J5)
    have look := fp_blk J5 f5 far'
    by_cases hlt : j < i.toNat
    · have kin : (0 : Int) + (j : Int) ∈ rngI 0 i.toNat := by
        unfold rngI
        exact List.mem_map.mpr ⟨j, List.mem_range.mpr hlt, rfl⟩
      refine thnF (TH.item ((X.blk s3 (upd T1.h s2.heap.objs.size (.lst [])) scope ce fp).tr [e0] fun _ _ => False) rfl rfl rfl hotY j [] s5 _ T2.h (fun _ _ => False) J5' look t5 hlt) fun _ s6 got => ?_
      obtain ⟨u, rfl, got⟩ := got
      refine thnF got fun _ s7 got => ?_
      obtain ⟨_, _, J7', ru, ⟨rfl, rfl⟩, t7, f7⟩ := got
      have J7 := inv_unaside J7' rfl
      have held := J7.pinned (fp_blk (q := []) J7 f7 fun r hr => by cases hr) (TH.obj _ _ t7)
      refine thnF (gb _ T2 (L2.wipe σ [n]) (.int (0 + (j : Int))) (fun σ' H' => H' = T2.h ∧ L2.wipe σ' [n] = L2.wipe σ [n] ∧ Fr X.K T2 σ' ((wipeE ρ n).set n (some (.v .frs (.int (0 + (j : Int))))))) (M5.fr.wipe n) (.int _) (fun σ' hw F' => ⟨rfl, hw.trans (wipe_two n σ), F'⟩) _ s7 u held ru) fun _ s8 got => ?_
      obtain ⟨σ8, _, J8, rfl, hw8, F8⟩ := got
      refine wpAny_tests_nil ?_
      rw [if_pos rfl]
      refine thnF (eb _ kin T2 σ8 (fun v H => ∃ T3, Grow T2 T3 ∧ Rp X.K (T3.at l') v (f (0 + (j : Int))) ∧ T3.h = H) F8 (fun v T3 g3 r3 => ⟨T3, g3, r3, rfl⟩) _ s8 J8) fun z s9 got => ?_
      obtain ⟨v, _, J9, rz, T3, g3, r3, rfl⟩ := got
      have M6 := M5.grow g3
      have hlen : vs.length = j := by rw [M6.r.length, List.length_map, rngI_length]
      refine app_ok (X := X.blk s3 (upd T1.h s2.heap.objs.size (.lst [])) scope ce fp) J9 M6.h (by rw [hlen]; exact small_lt (by omega)) rz fun s10 J10 => ⟨i.toNat - (j + 1), by omega, j + 1, T3.put s2.heap.objs.size (.lst (vs ++ [v])), vs ++ [v], rfl, hlt, ?_, ?_, ?_, M6.add hl' hD1 nO r3⟩
      · refine (J10.unpinned (pins := [])).weak (by rw [← hw8, wipe_length]) fun a b e => ?_
        rw [← hw8] at e
        exact (wipe_some e).1
      · exact TH.keep (j + 1) _ _ t7 fun b hb o e => (J10.pin (b, o) (List.mem_append_right _ (List.mem_append_right _ (mem_pinsAt hb e)))).1
      · intro b hb
        obtain ⟨o, e, _⟩ := TH.obj _ _ t7 b hb
        exact (J10.pin (b, o) (List.mem_append_right _ (List.mem_append_right _ (mem_pinsAt hb e)))).2.1
    · have ej : j = i.toNat := by omega
      refine thnF (TH.done ((X.blk s3 (upd T1.h s2.heap.objs.size (.lst [])) scope ce fp).tr [e0] fun _ _ => False) rfl rfl rfl hotY j [] s5 _ T2.h (fun _ _ => False) J5' look t5 (Nat.le_of_eq ej.symm)) fun _ s6 got => ?_
      obtain ⟨rfl, J6'⟩ := got
      have J6 := inv_unaside J6' rfl
      have back : L2.Inv X pins σ T2.h s6 := K3.call' (ch := fp) J6.os J6.base J6.hok J6.bare fun b hb => ⟨(fp2 b hb).2.2.2.1, (fp2 b hb).2.1, (fp2 b hb).2.2.2.2.1, (fp2 b hb).2.2.2.2.2⟩
      have gone : T2.h s3.heap.objs.size = none := cL ▸ J6.free
      obtain ⟨names, hns, _⟩ := J6.loc
      have own := K3.fpOk (Nat.le_refl _) gone
      refine ⟨names, cL ▸ hns, fun h' sb => ⟨.ref s2.heap.objs.size, T2.h, back.turned (t' := s6.toks) (fun b o hb e => (sb.2 b hb).trans e) own.1 own.2.1 own.2.2.2.1 own.2.2.2.2.1 own.2.2.2.2.2, rfl, q _ vs T2 ⟨M5.gs.ok, g1.ex.trans M5.sm, g1.xi.trans M5.gs.xi, g1.xn.trans M5.gs.xn, fun b h1 h2 => M5.gs.fi b (g1.fi b h1 h2) (Same.some g1.ex h2), fun b h1 h2 => M5.gs.fn b (g1.fn b h1 h2) (Same.some g1.ex h2)⟩ (Same.free g1.ex hD1) M5.i M5.h (ej ▸ M5.r)⟩⟩
  subst hs3 hce hs4
  exact codeAny_compStart_list turns (TH.self X.A 0 _ _ _ st4 turns)
end
end Lf

set_option Elab.async false
set_option linter.all false
set_option maxRecDepth 100000
set_option maxHeartbeats 2000000
set_option autoImplicit false
namespace Lf
open PySem L2 L2H
section
variable {X : Cx} {e a b c fe : Expr} {es : List Expr} {ρ ρ1 : PEnv} {d d1 d2 d3 : D} {l la lb lc : Lv} {pos p p2 : Pos} {i j k : Int} {ns ms : List Int} {ds fs : List D} {kt : Nat} {x y z : Str} {st : Stmt} {sts : List Stmt} {P : PEnds} {W : WX}
theorem hot_suite {a : Addr} {oe : Obj} {pn : List (Addr × Obj)} {C : Value} (hz : L2N.Zn C none oe) (hf : ∃ vs, oe.data = .fields vs) : HotC (X.suite a ((a, oe) :: pn)) := by
  obtain ⟨vs, hv⟩ := hf
  exact ⟨(a, oe), ⟨rfl, vs, hv, hz.2.2 vs hv⟩, List.mem_cons_self ..⟩
theorem takes0N : L2N.Takes X (fun _ _ _ _ => False) := fun u s' h => by
  obtain ⟨_, _, _, _, _, _, _, _, _, _, _, _, _, _, _, _, w⟩ := h
  exact w.elim
/-- try: e (it raises) except LE as n: suite (it returns) -/
theorem js_try (i : Nat) {C : Value} {LE : Addr} {xx n : Str} {suite : List Stmt} {b₀ : Stmt} {np pos' p1 : Pos} (hi : X.N[i]? = some n) (hN : X.N.Nodup) (hln : X.env.kindOf n = some .local) (hc : Names X xx (.ref LE))
    (hs : X.stack = X.env :: X.outer) (hf : X.env.frame = some X.env.locals)
    (hb : ∀ (W : WX) (pn : List (Addr × Obj)) (xe : Value → Shared → Prop), L2N.Takes (X.tr pn xe) W → JX (X.tr pn xe) W C e ρ) (hx : PySem.W.exmOne X.K C (.ref LE) = some true)
    (hsu : ∀ (a : Addr) (oe : Obj) (pn : List (Addr × Obj)), L2N.Zn C none oe → (∃ vs, oe.data = .fields vs) → JSs (X.suite a ((a, oe) :: pn)) (b₀ :: suite) { nx := fun _ => False, rt := P.rt } (ρ.set i (some (.v .imm (.ptr a)))))
    (hsw : ∀ (pn : List (Addr × Obj)) (xe : Value → Shared → Prop), swapsWith e none p1.line (X.tr pn xe).env = pure false := by exact fun _ _ => sw_ns rfl) :
    JS X (.Try [.Expr e p1] [.ExceptHandler (some (.Name xx np)) (some n) (b₀ :: suite) pos'] [] [] pos) P ρ :=
  JS.of (L2N.ps_try_as (i := i) (Wout := fun _ _ _ _ => False) (tb := fun W D σ H => ∀ (pn : List (Addr × Obj)) (xe : Value → Shared → Prop), L2N.Takes (X.tr pn xe) W → wSs (X.tr pn xe) [.Expr e p1] D σ H)
    (ts := fun a cls d D σ H => ∀ (oe : Obj) (pn : List (Addr × Obj)), L2N.Zn cls d oe → (∃ vs, oe.data = .fields vs) → wSs (X.suite a ((a, oe) :: pn)) (b₀ :: suite) D σ H)
    hs hf hN hi hln hc takes0N (fun W pn xe tk _ => ⟨fun pins s σ H D I h => h pn xe tk pins s I⟩) (fun a oe cls d pn hz hf => ⟨fun pins s σ H D I h => h oe pn hz hf pins s I⟩)) fun T σ D F m => by
    intro pn xe tk pins s I
    refine (pss_one (ps_expr pe_w (hsw pn xe))).run pins s σ T.h D I (hb _ pn xe tk T σ _ F fun T' g => ⟨true, hx, fun _ a ha oe pn' hz hfx => ?_, fun z => nomatch z⟩)
    exact hsu a oe pn' hz hfx T' _ _ ((F.grow g).set (i := i) (l := .imm) (by decide) (.ptr a)) ⟨fun _ _ _ _ _ z => z.elim, fun d v T2 g2 hd rv => m.rt d v T2 (g.w.trans g2) hd rv, fun _ _ _ _ _ z => z.elim, fun _ _ _ _ _ z => z.elim, fun _ _ _ _ z => z.elim, fun _ _ _ _ _ _ _ z => z.elim⟩
/-- isinstance(e, C), e the exception that is held -/
theorem je_isE {C D : Addr} {aa : Addr} {T : Str} {bb : Bool} {pt : Pos} (hcall : CallR X (.builtin "isinstance") (rIsE X.K D aa)) (hm : X.mg "isinstance" = none) (hmT : X.mg T = some (.ref C)) (ha : JE X la e ρ (.ptr aa)) (hk : PySem.W.kitOne X.K (.ref D) (.ref C) = some bb)
    (hg : Gl X "isinstance" := by rfl) (hgT : Gl X T := by rfl) (hdb : (T == ("__debug__" : Str)) = false := by decide)
    (h1 : starEach [e, .Name T pt] X.env = (false, eval e X.env) :: starEach [.Name T pt] X.env := by exact star_c rfl) (h2 : starEach [.Name T pt] X.env = (false, eval (.Name T pt) X.env) :: starEach [] X.env := by exact star_c rfl)
    (hpl : (backTo pos (starEach [.Name T pt] X.env)).any (·.1) = false := by exact back_ns rfl) : JE X .frs (.Call (.Name "isinstance" p) [e, .Name T pt] [] pos) ρ (.bl bb) :=
  JE.of (pe_callB hcall hg hm (by decide +kernel) (pa_cons pe_w (pa_cons (pe_glob (v := .ref C) hgT hmT rfl hdb) pa_nil h2) h1) (by decide) (by decide) h1 hpl) fun T σ Q F q => ha T σ _ F fun v T1 g1 r1 => by
    cases r1
    exact ⟨.ref C, .ref C, bb, rfl, fun u r => by cases r; rfl, hk, q _ T1 g1 (.bl bb)⟩
theorem je_isET {D : Addr} {aa : Addr} {T : Str} {n : String} {bb : Bool} {pt : Pos} (hcall : CallR X (.builtin "isinstance") (rIsE X.K D aa)) (hm : X.mg "isinstance" = none) (hmT : X.mg T = none) (hT : bootBuiltins T = some (.type n)) (ha : JE X la e ρ (.ptr aa)) (hk : PySem.W.kitOne X.K (.ref D) (.type n) = some bb)
    (hg : Gl X "isinstance" := by rfl) (hgT : Gl X T := by rfl) (hn : T ≠ "__name__" := by decide) (hdb : (T == ("__debug__" : Str)) = false := by decide)
    (h1 : starEach [e, .Name T pt] X.env = (false, eval e X.env) :: starEach [.Name T pt] X.env := by exact star_c rfl) (h2 : starEach [.Name T pt] X.env = (false, eval (.Name T pt) X.env) :: starEach [] X.env := by exact star_c rfl)
    (hpl : (backTo pos (starEach [.Name T pt] X.env)).any (·.1) = false := by exact back_ns rfl) : JE X .frs (.Call (.Name "isinstance" p) [e, .Name T pt] [] pos) ρ (.bl bb) :=
  JE.of (pe_callB hcall hg hm (by decide +kernel) (pa_cons pe_w (pa_cons (pe_bltn (v := .ty n) hgT hmT hT rfl hn hdb) pa_nil h2) h1) (by decide) (by decide) h1 hpl) fun T σ Q F q => ha T σ _ F fun v T1 g1 r1 => by
    cases r1
    exact ⟨.ty n, .type n, bb, rfl, fun u r => by cases r; rfl, hk, q _ T1 g1 (.bl bb)⟩
/-- three names -/
theorem jg_trip (n m o : Nat) {px py pz : Pos} {k1 : Nat} (hN : X.N.Nodup) (hl : l ≠ .full := by decide) (hi : X.N[n]? = some x := by rfl) (hj : X.N[m]? = some y := by rfl) (hk : X.N[o]? = some z := by rfl) (hx : Loc X.env.scope x := by first | exact Or.inl rfl | exact Or.inr rfl) (hy : Loc X.env.scope y := by first | exact Or.inl rfl | exact Or.inr rfl) (hzz : Loc X.env.scope z := by first | exact Or.inl rfl | exact Or.inr rfl)
    (hf : X.fn x = true ∨ X.env.scope.names.lookup x = some .local := by exact Or.inl rfl) (hf2 : X.fn y = true ∨ X.env.scope.names.lookup y = some .local := by exact Or.inl rfl) (hf3 : X.fn z = true ∨ X.env.scope.names.lookup z = some .local := by exact Or.inl rfl) (hc : X.calm = true := by rfl)
    (hs1 : (assignEach [.Name x px, .Name y py, .Name z pz] X.env).map (·.2) = assign (.Name x px) X.env :: (assignEach [.Name y py, .Name z pz] X.env).map (·.2) := by rfl) (hs2 : (assignEach [.Name y py, .Name z pz] X.env).map (·.2) = assign (.Name y py) X.env :: (assignEach [.Name z pz] X.env).map (·.2) := by rfl)
    (hs3 : (assignEach [.Name z pz] X.env).map (·.2) = assign (.Name z pz) X.env :: (assignEach [] X.env).map (·.2) := by rfl)
    (hn : (assignEach [.Name x px, .Name y py, .Name z pz] X.env).length = 3 := by rfl) (hst : (assignEach [.Name x px, .Name y py, .Name z pz] X.env).findIdx? (·.1) = none := by rfl) :
    JG X (.Tuple [.Name x px, .Name y py, .Name z pz] k1 p) l (.tup [d1, d2, d3]) ρ (((ρ.set n (some (.v l d1))).set m (some (.v l d2))).set o (some (.v l d3))) := fun T σ v Q F r q pins s u I rv => by
  cases r with
  | tup h rr =>
    have h := SqT.of (K := X.K) h
    cases rr with
    | cons r1 rr =>
      cases rr with
      | cons r2 rr =>
        cases rr with
        | cons r3 rr =>
          cases rr
          exact (pg_tup hc (pgs_cons (pg_name (i := n) hN hi hx hf) (pgs_cons (pg_name (i := m) hN hj hy hf2) (pgs_cons (pg_name (i := o) hN hk hzz hf3) pgs_nil hs3) hs2) hs1) hn hst).run pins s σ T.h _ u Q I rv
            ⟨_, _, rfl, seqT F.ok.full h, rfl, _, _, rfl, _, _, rfl, _, _, rfl, rfl, q _ (((F.set hl r1).set hl r2).set hl r3)⟩
variable {C : Value}
theorem jssx_expr (he : JE X l e ρ d) (h : JSsX X W C sts ρ) (hs : swapsWith e none pos.line X.env = pure false := by exact sw_ns rfl) : JSsX X W C (.Expr e pos :: sts) ρ := jssx_tail (js_expr he h hs)
theorem jssx_set (n : Nat) {p' : Pos} (he : JE X l e ρ d) (h : JSsX X W C sts (ρ.set n (some (.v l d)))) (hl : l ≠ .full := by decide) (hN : X.N.Nodup) (hi : X.N[n]? = some x := by rfl) (hx : Loc X.env.scope x := by first | exact Or.inl rfl | exact Or.inr rfl)
    (hs : swapsWith e (some (.Name x p')) pos.line X.env = pure false := by exact sw_ns rfl) (hf : X.fn x = true ∨ X.env.scope.names.lookup x = some .local := by exact Or.inl rfl) : JSsX X W C (.Assign [.Name x p'] e pos :: sts) ρ := jssx_tail (js_set n he h hl hN hi hx hs hf)
/-- a test that fails, and goes on; that holds, and raises -/
theorem jssx_if {v : Bool} {s1 : List Stmt} (hc : JT X c ρ v) (h1 : v = true → JSsX X W C s1 ρ) (h2 : v = false → JSsX X W C sts ρ) : JSsX X W C (.If c s1 [] pos :: sts) ρ := by
  cases v with
  | true => exact jssx_head (jsx_if hc (fun q => h1 q) fun q => by cases q)
  | false => exact jssx_tail (js_if hc (fun q => by cases q) fun q => jss_nil (h2 q))
end
end Lf

set_option Elab.async false
set_option linter.all false
set_option maxRecDepth 100000
set_option maxHeartbeats 2000000
set_option autoImplicit false
namespace Kc
open PySem L2 Lf
def top (i : Nat) : Stmt := PySem.Challenge.pw_leftin_k08_refused.main.body.getD i (.Pass ⟨0, 0, 0, 0⟩)
abbrev s_is_number : Stmt := top 6
abbrev s_check_row : Stmt := top 7
abbrev s_check_kinds : Stmt := top 8
abbrev s_earliest : Stmt := top 9
abbrev s_ways : Stmt := top 11
abbrev s_kin : Stmt := top 12
abbrev s_least : Stmt := top 13
abbrev s_are_rising : Stmt := top 16
abbrev s_stands : Stmt := top 17
abbrev s_Left_init : Stmt := inClass (top 18) 0
abbrev s_Left_shows : Stmt := inClass (top 18) 1
abbrev s_Short_init : Stmt := inClass (top 19) 0
abbrev s_Short_shows : Stmt := inClass (top 19) 1
abbrev s_is_table : Stmt := top 20
abbrev s_Longest_init : Stmt := inClass (top 21) 0
abbrev s_Longest_shows : Stmt := inClass (top 21) 1
abbrev s_Both_init : Stmt := inClass (top 22) 0
abbrev s_Both_shows : Stmt := inClass (top 22) 1
abbrev s_Missing_init : Stmt := inClass (top 23) 0
abbrev s_Missing_shows : Stmt := inClass (top 23) 1
abbrev s_Mixed_init : Stmt := inClass (top 24) 0
abbrev s_Mixed_shows : Stmt := inClass (top 24) 1
abbrev s_Unmixed_init : Stmt := inClass (top 25) 0
abbrev s_Unmixed_shows : Stmt := inClass (top 25) 1
abbrev s_steps_on : Stmt := top 26
abbrev s_left : Stmt := top 28
abbrev s_table_of : Stmt := top 29
abbrev s_common_places : Stmt := top 30
abbrev s_longest : Stmt := top 31
abbrev s_shortest : Stmt := top 32
abbrev s_missing : Stmt := top 33
abbrev s_mixed : Stmt := top 34
abbrev s_law_ask : Stmt := top 36
abbrev s_law_mix : Stmt := top 37
abbrev s_law_due : Stmt := top 38
abbrev s_law_rows : Stmt := top 39
abbrev s_law_kinds : Stmt := top 40
abbrev s_law_counts : Stmt := top 41
abbrev s_law : Stmt := top 42
end Kc

set_option Elab.async false
set_option linter.all false
set_option maxRecDepth 100000
set_option maxHeartbeats 2000000
set_option autoImplicit false
namespace Kc
open PySem L2 Lf
section
variable {P : Program} {w : World} {K : PySem.W.Frag} {mg : Str → Option Value} {base : Heap}
variable {BR BK BM : Addr}
structure Blt (mg : Str → Option Value) : Prop where
  isinstance : mg "isinstance" = none
  int : mg "int" = none
  bool : mg "bool" = none
  list : mg "list" = none
  tuple : mg "tuple" = none
  len : mg "len" = none
  range : mg "range" = none
  reversed : mg "reversed" = none
  enumerate : mg "enumerate" = none
  zip : mg "zip" = none
  sum : mg "sum" = none
  min : mg "min" = none
  max : mg "max" = none
  all : mg "all" = none
  any : mg "any" = none
  set : mg "set" = none
  sorted : mg "sorted" = none
theorem boot_int : bootBuiltins "int" = some (.type "int") := by decide +kernel
theorem boot_bool : bootBuiltins "bool" = some (.type "bool") := by decide +kernel
theorem boot_list : bootBuiltins "list" = some (.type "list") := by decide +kernel
def isNum (d : D) : Bool := match d with | .int _ => true | _ => false
def isIB (d : D) : Bool := match d with | .int _ => true | .bl _ => true | _ => false
def isBo (d : D) : Bool := match d with | .bl _ => true | _ => false
def isLi (d : D) : Bool := match d with | .il _ => true | .lst _ => true | _ => false
def valD (d : D) : Bool := match d with | .obj _ _ => false | .ptr _ => false | .scr _ => false | _ => true
def isRow (d : D) : Bool := match d with | .il _ => true | .lst ds => ds.all isNum | _ => false
def vRow (d : D) : Prop := valD d = true ∧ (∀ ds, d = .lst ds → ds.all valD = true ∧ ds.length ≤ 1000) ∧ (∀ ns : List Int, d = .il ns → ns.length ≤ 1000)
theorem val_cls {d : D} (h : valD d = true) : clsOk K d := by
  cases d <;> first | trivial | cases h
theorem kit_int {d : D} (h : valD d = true) : PySem.W.kitOne K (tyOf d) (.type "int") = some (isIB d) := by
  cases d <;> first | exact kit_ty (r := true) (by decide +kernel) | exact kit_ty (r := false) (by decide +kernel) | cases h
theorem kit_bool {d : D} (h : valD d = true) : PySem.W.kitOne K (tyOf d) (.type "bool") = some (isBo d) := by
  cases d <;> first | exact kit_ty (r := true) (by decide +kernel) | exact kit_ty (r := false) (by decide +kernel) | cases h
theorem kit_list {d : D} (h : valD d = true) : PySem.W.kitOne K (tyOf d) (.type "list") = some (isLi d) := by
  cases d <;> first | exact kit_ty (r := true) (by decide +kernel) | exact kit_ty (r := false) (by decide +kernel) | cases h
theorem num_eq (d : D) : (isIB d && !isBo d) = isNum d := by cases d <;> rfl
theorem all_map (f : D → Bool) : ∀ ds : List D, (ds.map f).all id = ds.all f
  | [] => rfl
  | d :: r => by rw [List.map_cons, List.all_cons, List.all_cons, all_map f r]; rfl
theorem all_t (ns : List Int) : (ns.map fun _ => true).all id = true := by
  induction ns with
  | nil => rfl
  | cons x r ih => simp [ih]
theorem sc_is_number : FnScope ["thing"] ["thing"] (defScope s_is_number) := ⟨rfl, rfl, rfl, by decide +kernel, rfl, by decide +kernel, by decide +kernel⟩
def p_is_number (ds : List D) : Prop := ∃ d, ds = [d] ∧ valD d = true
def g_is_number (ds : List D) : D := match ds with | [d] => .bl (isNum d) | _ => .non
theorem ok_is_number {f : Addr} {fd : FuncData} (F : Fun K "is_number" "is_number" s_is_number f fd) (T : Blt mg) : FnOk P w K mg base CX0 1 f fd ["thing"] (spF K p_is_number g_is_number) := by
  refine fn_ok (k := 0) F sc_is_number (by rintro ds ⟨i, rfl, _⟩; rfl) fun cdv A outer s H E hr ds hp => ?_
  obtain ⟨d, rfl, hv⟩ := hp
  exact jss_one (js_ret (JE.eq (je_and (v := isIB d) (u := !isBo d) (je_isT T.isinstance T.int boot_int (je_v 0 rfl) (kit_int hv) (val_cls hv)) (fun _ => (je_one (je_not (je_isT T.isinstance T.bool boot_bool (je_v 0 rfl) (kit_bool hv) (val_cls hv)))))) (by rw [num_eq]; rfl)) rfl)
theorem sc_check_row : FnScope ["row", "sign"] ["row"] (defScope s_check_row) := ⟨rfl, rfl, rfl, by decide +kernel, rfl, by decide +kernel, by decide +kernel⟩
def p_check_row (ds : List D) : Prop := ∃ d, ds = [d] ∧ vRow d
def r_check_row (BR : Addr) (ds : List D) : D ⊕ Value := match ds with | [d] => if isRow d = true then .inl .non else .inr (.ref BR) | _ => .inl .non
theorem r_row_y {BR : Addr} {d : D} (h : isRow d = true) : r_check_row BR [d] = .inl .non := if_pos h
theorem r_row_n {BR : Addr} {d : D} (h : isRow d = false) : r_check_row BR [d] = .inr (.ref BR) := if_neg (by rw [h]; exact Bool.false_ne_true)
theorem ok_check_row {f : Addr} {fd : FuncData} (F : Fun K "check_row" "check_row" s_check_row f fd) (T : Blt mg) (XR : ExcK K mg "BadRow" BR) (C_is_number : Callee P w K mg base 1 "is_number" p_is_number g_is_number) : FnOk P w K mg base (L2N.CX P w) 2 f fd ["row"] (spE K p_check_row (r_check_row BR)) := by
  refine fn_okE (k := 1) F sc_check_row (by rintro ds ⟨i, rfl, _⟩; rfl) fun cdv A outer s H E hr tk ds hp => ?_
  obtain ⟨d, rfl, hv, hv2, hv3⟩ := hp
  refine ⟨fun d' e => ?_, fun C e => ?_⟩
  · have hrow : isRow d = true := by
      cases h : isRow d with
      | true => rfl
      | false => rw [r_row_n h] at e; cases e
    rw [r_row_y hrow] at e
    cases e
    refine jss_one (js_if (v := !isRow d) (JT.eq (JW.pt (jw_or (v := !isLi d) (u := !isRow d) (jt_not (jt_v (je_isT T.isinstance T.list boot_list (je_v 0 rfl) (kit_list hv) (val_cls hv)))) (fun c => (jw_or1 (jt_not (jt_v (v := isRow d) (by
      have hl : isLi d = true := by simpa using c
      cases d with
      | il ns =>
        have hz := hv3 ns rfl
        exact JE.eq (je_all T.all (JO.je (jo_mapB (x := "sign") (n := 1) (f := fun _ => true) (ji_list (je_v 0 rfl)) (fun _ _ _ _ _ _ => jgb_name 1 sc_check_row.nd) (fun k hk _ _ _ _ _ => (je_call C_is_number hr (ja_cons (je_v 1 rfl) ja_nil) ⟨_, rfl, rfl⟩)) sc_check_row.nd (blkOk_by (N := ["row", "sign"]) (sc := defScope s_check_row) (by decide +kernel)) (by omega)))) (by rw [all_t]; rfl)
      | lst es =>
        obtain ⟨hva, hz⟩ := hv2 es rfl
        exact JE.eq (je_all T.all (JO.je (jo_mapDB (x := "sign") (n := 1) (f := isNum) (ji_lst (je_v 0 rfl)) (fun _ _ _ _ _ _ _ => jgb_name 1 sc_check_row.nd) (fun d hd _ _ _ _ _ => (je_call C_is_number hr (ja_cons (je_v 1 rfl) ja_nil) ⟨_, rfl, List.all_eq_true.mp hva d hd⟩)) sc_check_row.nd (blkOk_by (N := ["row", "sign"]) (sc := defScope s_check_row) (by decide +kernel)) (by omega)))) (by rw [all_map]; rfl)
      | _ => cases hl))))))) (by cases d <;> simp [isLi, isRow])) (fun c => ?_) (fun c => jss_nil rfl))
    rw [hrow] at c
    cases c
  · have hrow : isRow d = false := by
      cases h : isRow d with
      | false => rfl
      | true => rw [r_row_y h] at e; cases e
    rw [r_row_n hrow] at e
    cases e
    refine jssx_head (jsx_if (v := !isRow d) (JT.eq (JW.pt (jw_or (v := !isLi d) (u := !isRow d) (jt_not (jt_v (je_isT T.isinstance T.list boot_list (je_v 0 rfl) (kit_list hv) (val_cls hv)))) (fun c => (jw_or1 (jt_not (jt_v (v := isRow d) (by
      have hl : isLi d = true := by simpa using c
      cases d with
      | il ns =>
        have hz := hv3 ns rfl
        exact JE.eq (je_all T.all (JO.je (jo_mapB (x := "sign") (n := 1) (f := fun _ => true) (ji_list (je_v 0 rfl)) (fun _ _ _ _ _ _ => jgb_name 1 sc_check_row.nd) (fun k hk _ _ _ _ _ => (je_call C_is_number hr (ja_cons (je_v 1 rfl) ja_nil) ⟨_, rfl, rfl⟩)) sc_check_row.nd (blkOk_by (N := ["row", "sign"]) (sc := defScope s_check_row) (by decide +kernel)) (by omega)))) (by rw [all_t]; rfl)
      | lst es =>
        obtain ⟨hva, hz⟩ := hv2 es rfl
        exact JE.eq (je_all T.all (JO.je (jo_mapDB (x := "sign") (n := 1) (f := isNum) (ji_lst (je_v 0 rfl)) (fun _ _ _ _ _ _ _ => jgb_name 1 sc_check_row.nd) (fun d hd _ _ _ _ _ => (je_call C_is_number hr (ja_cons (je_v 1 rfl) ja_nil) ⟨_, rfl, List.all_eq_true.mp hva d hd⟩)) sc_check_row.nd (blkOk_by (N := ["row", "sign"]) (sc := defScope s_check_row) (by decide +kernel)) (by omega)))) (by rw [all_map]; rfl)
      | _ => cases hl))))))) (by cases d <;> simp [isLi, isRow])) (fun c => jssx_head (jsx_raise tk XR)) (fun c => ?_))
    rw [hrow] at c
    cases c
def isKi (d : D) : Bool := match d with | .int k => decide (1 ≤ k) | _ => false
theorem sc_check_kinds : FnScope ["kinds"] ["kinds"] (defScope s_check_kinds) := ⟨rfl, rfl, rfl, by decide +kernel, rfl, by decide +kernel, by decide +kernel⟩
def p_check_kinds (ds : List D) : Prop := ∃ d, ds = [d] ∧ valD d = true
def r_check_kinds (BK : Addr) (ds : List D) : D ⊕ Value := match ds with | [d] => if isKi d = true then .inl .non else .inr (.ref BK) | _ => .inl .non
theorem r_ki_y {BK : Addr} {d : D} (h : isKi d = true) : r_check_kinds BK [d] = .inl .non := if_pos h
theorem r_ki_n {BK : Addr} {d : D} (h : isKi d = false) : r_check_kinds BK [d] = .inr (.ref BK) := if_neg (by rw [h]; exact Bool.false_ne_true)
theorem ok_check_kinds {f : Addr} {fd : FuncData} (F : Fun K "check_kinds" "check_kinds" s_check_kinds f fd) (T : Blt mg) (XK : ExcK K mg "BadKinds" BK) (C_is_number : Callee P w K mg base 1 "is_number" p_is_number g_is_number) : FnOk P w K mg base (L2N.CX P w) 2 f fd ["kinds"] (spE K p_check_kinds (r_check_kinds BK)) := by
  refine fn_okE (k := 1) F sc_check_kinds (by rintro ds ⟨i, rfl, _⟩; rfl) fun cdv A outer s H E hr tk ds hp => ?_
  obtain ⟨d, rfl, hv⟩ := hp
  refine ⟨fun d' e => ?_, fun C e => ?_⟩
  · have hk : isKi d = true := by
      cases h : isKi d with
      | true => rfl
      | false => rw [r_ki_n h] at e; cases e
    rw [r_ki_y hk] at e
    cases e
    refine jss_one (js_if (v := !isKi d) (JT.eq (JW.pt (jw_or (v := !isNum d) (u := !isKi d) (jt_not (jt_v (v := isNum d) (je_call C_is_number hr (ja_cons (je_v 0 rfl) ja_nil) ⟨_, rfl, hv⟩))) (fun c => (jw_or1 (by
      have hl : isNum d = true := by simpa using c
      cases d with
      | int k => exact JT.eq (jt_c (jc_lt (je_v 0 rfl) je_int)) (by show decide (k < 1) = !decide (1 ≤ k); by_cases h : k < 1 <;> simp [h] <;> omega)
      | _ => cases hl))))) (by cases d <;> simp [isNum, isKi])) (fun c => ?_) (fun c => jss_nil rfl))
    rw [hk] at c
    cases c
  · have hk : isKi d = false := by
      cases h : isKi d with
      | false => rfl
      | true => rw [r_ki_y h] at e; cases e
    rw [r_ki_n hk] at e
    cases e
    refine jssx_head (jsx_if (v := !isKi d) (JT.eq (JW.pt (jw_or (v := !isNum d) (u := !isKi d) (jt_not (jt_v (v := isNum d) (je_call C_is_number hr (ja_cons (je_v 0 rfl) ja_nil) ⟨_, rfl, hv⟩))) (fun c => (jw_or1 (by
      have hl : isNum d = true := by simpa using c
      cases d with
      | int k => exact JT.eq (jt_c (jc_lt (je_v 0 rfl) je_int)) (by show decide (k < 1) = !decide (1 ≤ k); by_cases h : k < 1 <;> simp [h] <;> omega)
      | _ => cases hl))))) (by cases d <;> simp [isNum, isKi])) (fun c => jssx_head (jsx_raise tk XK)) (fun c => ?_))
    rw [hk] at c
    cases c

end
end Kc

set_option Elab.async false
set_option linter.all false
set_option maxRecDepth 100000
set_option maxHeartbeats 2000000
set_option autoImplicit false
namespace Kc
open PySem L2 Lf
section
variable {P : Program} {w : World} {K : PySem.W.Frag} {mg : Str → Option Value} {base : Heap}
variable {BR BK BM : Addr}
def p_two (ds : List D) : Prop := ∃ a b, ds = [a, b] ∧ vRow a ∧ vRow b ∧ (isRow a && isRow b) = false
def r_br (BR : Addr) (_ : List D) : D ⊕ Value := .inr (.ref BR)
theorem sc_left : FnScope ["row", "other", "places"] ["row", "other"] (defScope s_left) := ⟨rfl, rfl, rfl, by decide +kernel, rfl, by decide +kernel, by decide +kernel⟩
theorem ok_left {f : Addr} {fd : FuncData} (F : Fun K "left" "left" s_left f fd) (T : Blt mg) (C_check_row : CalleeE P w K mg base 2 "check_row" p_check_row (r_check_row BR)) : FnOk P w K mg base (L2N.CX P w) 3 f fd ["row", "other"] (spE K p_two (r_br BR)) := by
  refine fn_okE (k := 2) F sc_left (by rintro ds ⟨a, b, rfl, _⟩; rfl) fun cdv A outer s H E hr tk ds hp => ⟨(fun d e => by cases e), fun C e => ?_⟩
  cases e
  obtain ⟨a, b, rfl, h1, h2, h3⟩ := hp
  cases ha : isRow a with
  | false => exact jssx_head (jsx_expr (jx_call tk C_check_row hr (ja_cons (je_v 0 rfl) ja_nil) ⟨_, rfl, h1⟩ (r_row_n ha)))
  | true =>
    have hb : isRow b = false := by rw [ha, Bool.true_and] at h3; exact h3
    exact jssx_expr (je_callE tk C_check_row hr (ja_cons (je_v 0 rfl) ja_nil) ⟨_, rfl, h1⟩ (r_row_y ha)) (jssx_head (jsx_expr (jx_call tk C_check_row hr (ja_cons (je_v 1 rfl) ja_nil) ⟨_, rfl, h2⟩ (r_row_n hb))))
theorem sc_longest : FnScope ["one", "other", "table", "mine", "theirs"] ["one", "other"] (defScope s_longest) := ⟨rfl, rfl, rfl, by decide +kernel, rfl, by decide +kernel, by decide +kernel⟩
theorem ok_longest {f : Addr} {fd : FuncData} (F : Fun K "longest" "longest" s_longest f fd) (T : Blt mg) (C_check_row : CalleeE P w K mg base 2 "check_row" p_check_row (r_check_row BR)) : FnOk P w K mg base (L2N.CX P w) 3 f fd ["one", "other"] (spE K p_two (r_br BR)) := by
  refine fn_okE (k := 2) F sc_longest (by rintro ds ⟨a, b, rfl, _⟩; rfl) fun cdv A outer s H E hr tk ds hp => ⟨(fun d e => by cases e), fun C e => ?_⟩
  cases e
  obtain ⟨a, b, rfl, h1, h2, h3⟩ := hp
  cases ha : isRow a with
  | false => exact jssx_head (jsx_expr (jx_call tk C_check_row hr (ja_cons (je_v 0 rfl) ja_nil) ⟨_, rfl, h1⟩ (r_row_n ha)))
  | true =>
    have hb : isRow b = false := by rw [ha, Bool.true_and] at h3; exact h3
    exact jssx_expr (je_callE tk C_check_row hr (ja_cons (je_v 0 rfl) ja_nil) ⟨_, rfl, h1⟩ (r_row_y ha)) (jssx_head (jsx_expr (jx_call tk C_check_row hr (ja_cons (je_v 1 rfl) ja_nil) ⟨_, rfl, h2⟩ (r_row_n hb))))
theorem sc_shortest : FnScope ["one", "other", "table", "mine", "theirs", "row", "first", "second", "i", "j", "place", "another"] ["one", "other"] (defScope s_shortest) := ⟨rfl, rfl, rfl, by decide +kernel, rfl, by decide +kernel, by decide +kernel⟩
theorem ok_shortest {f : Addr} {fd : FuncData} (F : Fun K "shortest" "shortest" s_shortest f fd) (T : Blt mg) (C_check_row : CalleeE P w K mg base 2 "check_row" p_check_row (r_check_row BR)) : FnOk P w K mg base (L2N.CX P w) 3 f fd ["one", "other"] (spE K p_two (r_br BR)) := by
  refine fn_okE (k := 2) F sc_shortest (by rintro ds ⟨a, b, rfl, _⟩; rfl) fun cdv A outer s H E hr tk ds hp => ⟨(fun d e => by cases e), fun C e => ?_⟩
  cases e
  obtain ⟨a, b, rfl, h1, h2, h3⟩ := hp
  cases ha : isRow a with
  | false => exact jssx_head (jsx_expr (jx_call tk C_check_row hr (ja_cons (je_v 0 rfl) ja_nil) ⟨_, rfl, h1⟩ (r_row_n ha)))
  | true =>
    have hb : isRow b = false := by rw [ha, Bool.true_and] at h3; exact h3
    exact jssx_expr (je_callE tk C_check_row hr (ja_cons (je_v 0 rfl) ja_nil) ⟨_, rfl, h1⟩ (r_row_y ha)) (jssx_head (jsx_expr (jx_call tk C_check_row hr (ja_cons (je_v 1 rfl) ja_nil) ⟨_, rfl, h2⟩ (r_row_n hb))))
theorem sc_ways : FnScope ["row", "other", "counts", "sign", "at"] ["row", "other"] (defScope s_ways) := ⟨rfl, rfl, rfl, by decide +kernel, rfl, by decide +kernel, by decide +kernel⟩
theorem ok_ways {f : Addr} {fd : FuncData} (F : Fun K "ways" "ways" s_ways f fd) (T : Blt mg) (C_check_row : CalleeE P w K mg base 2 "check_row" p_check_row (r_check_row BR)) : FnOk P w K mg base (L2N.CX P w) 3 f fd ["row", "other"] (spE K p_two (r_br BR)) := by
  refine fn_okE (k := 2) F sc_ways (by rintro ds ⟨a, b, rfl, _⟩; rfl) fun cdv A outer s H E hr tk ds hp => ⟨(fun d e => by cases e), fun C e => ?_⟩
  cases e
  obtain ⟨a, b, rfl, h1, h2, h3⟩ := hp
  cases ha : isRow a with
  | false => exact jssx_head (jsx_expr (jx_call tk C_check_row hr (ja_cons (je_v 0 rfl) ja_nil) ⟨_, rfl, h1⟩ (r_row_n ha)))
  | true =>
    have hb : isRow b = false := by rw [ha, Bool.true_and] at h3; exact h3
    exact jssx_expr (je_callE tk C_check_row hr (ja_cons (je_v 0 rfl) ja_nil) ⟨_, rfl, h1⟩ (r_row_y ha)) (jssx_head (jsx_expr (jx_call tk C_check_row hr (ja_cons (je_v 1 rfl) ja_nil) ⟨_, rfl, h2⟩ (r_row_n hb))))
theorem sc_kin : FnScope ["row", "many", "ahead", "sign", "before"] ["row"] (defScope s_kin) := ⟨rfl, rfl, rfl, by decide +kernel, rfl, by decide +kernel, by decide +kernel⟩
def p_kin (ds : List D) : Prop := ∃ a, ds = [a] ∧ vRow a ∧ isRow a = false
theorem ok_kin {f : Addr} {fd : FuncData} (F : Fun K "kin" "kin" s_kin f fd) (T : Blt mg) (C_check_row : CalleeE P w K mg base 2 "check_row" p_check_row (r_check_row BR)) : FnOk P w K mg base (L2N.CX P w) 3 f fd ["row"] (spE K p_kin (r_br BR)) := by
  refine fn_okE (k := 2) F sc_kin (by rintro ds ⟨a, rfl, _⟩; rfl) fun cdv A outer s H E hr tk ds hp => ⟨(fun d e => by cases e), fun C e => ?_⟩
  cases e
  obtain ⟨a, rfl, h1, ha⟩ := hp
  exact jssx_head (jsx_expr (jx_call tk C_check_row hr (ja_cons (je_v 0 rfl) ja_nil) ⟨_, rfl, h1⟩ (r_row_n ha)))
theorem sc_missing : FnScope ["row", "kinds", "cuts", "word", "met", "sign", "place"] ["row", "kinds"] (defScope s_missing) := ⟨rfl, rfl, rfl, by decide +kernel, rfl, by decide +kernel, by decide +kernel⟩
def p_missing (ds : List D) : Prop := ∃ a b, ds = [a, b] ∧ vRow a ∧ valD b = true ∧ (isRow a = false ∨ isKi b = false)
def r_missing (BR BK : Addr) (ds : List D) : D ⊕ Value := match ds with | [a, _] => if isRow a = true then .inr (.ref BK) else .inr (.ref BR) | _ => .inl .non
theorem ok_missing {f : Addr} {fd : FuncData} (F : Fun K "missing" "missing" s_missing f fd) (T : Blt mg) (C_check_row : CalleeE P w K mg base 2 "check_row" p_check_row (r_check_row BR)) (C_check_kinds : CalleeE P w K mg base 2 "check_kinds" p_check_kinds (r_check_kinds BK)) : FnOk P w K mg base (L2N.CX P w) 3 f fd ["row", "kinds"] (spE K p_missing (r_missing BR BK)) := by
  refine fn_okE (k := 2) F sc_missing (by rintro ds ⟨a, b, rfl, _⟩; rfl) fun cdv A outer s H E hr tk ds hp => ?_
  obtain ⟨a, b, rfl, h1, h2, h3⟩ := hp
  cases ha : isRow a with
  | false =>
    have e0 : r_missing BR BK [a, b] = .inr (.ref BR) := if_neg (by rw [ha]; exact Bool.false_ne_true)
    rw [e0]
    refine ⟨(fun d e => by cases e), fun C e => ?_⟩
    cases e
    exact jssx_head (jsx_expr (jx_call tk C_check_row hr (ja_cons (je_v 0 rfl) ja_nil) ⟨_, rfl, h1⟩ (r_row_n ha)))
  | true =>
    have hb : isKi b = false := by rcases h3 with h | h; rw [ha] at h; cases h; exact h
    have e0 : r_missing BR BK [a, b] = .inr (.ref BK) := if_pos ha
    rw [e0]
    refine ⟨(fun d e => by cases e), fun C e => ?_⟩
    cases e
    exact jssx_expr (je_callE tk C_check_row hr (ja_cons (je_v 0 rfl) ja_nil) ⟨_, rfl, h1⟩ (r_row_y ha)) (jssx_head (jsx_expr (jx_call tk C_check_kinds hr (ja_cons (je_v 1 rfl) ja_nil) ⟨_, rfl, h2⟩ (r_ki_n hb))))
theorem sc_least : FnScope ["row", "many", "found", "spare", "sign"] ["row", "many"] (defScope s_least) := ⟨rfl, rfl, rfl, by decide +kernel, rfl, by decide +kernel, by decide +kernel⟩
def cntOk (n : Nat) (d : D) : Bool := match d with | .int k => decide (0 ≤ k) && decide (k ≤ (n : Int)) | _ => false
def p_least (ds : List D) : Prop := ∃ a b, ds = [a, b] ∧ vRow a ∧ valD b = true ∧ (isRow a = false ∨ ∃ ns : List Int, a = .il ns ∧ cntOk ns.length b = false)
def r_least (BR BM : Addr) (ds : List D) : D ⊕ Value := match ds with | [a, _] => if isRow a = true then .inr (.ref BM) else .inr (.ref BR) | _ => .inl .non
theorem ok_least {f : Addr} {fd : FuncData} (F : Fun K "least" "least" s_least f fd) (T : Blt mg) (XM : ExcK K mg "BadMany" BM) (C_check_row : CalleeE P w K mg base 2 "check_row" p_check_row (r_check_row BR)) (C_is_number : Callee P w K mg base 1 "is_number" p_is_number g_is_number) : FnOk P w K mg base (L2N.CX P w) 3 f fd ["row", "many"] (spE K p_least (r_least BR BM)) := by
  refine fn_okE (k := 2) F sc_least (by rintro ds ⟨a, b, rfl, _⟩; rfl) fun cdv A outer s H E hr tk ds hp => ?_
  obtain ⟨a, b, rfl, h1, h2, h3⟩ := hp
  cases ha : isRow a with
  | false =>
    have e0 : r_least BR BM [a, b] = .inr (.ref BR) := if_neg (by rw [ha]; exact Bool.false_ne_true)
    rw [e0]
    refine ⟨(fun d e => by cases e), fun C e => ?_⟩
    cases e
    exact jssx_head (jsx_expr (jx_call tk C_check_row hr (ja_cons (je_v 0 rfl) ja_nil) ⟨_, rfl, h1⟩ (r_row_n ha)))
  | true =>
    obtain ⟨ns, rfl, hb⟩ : ∃ ns : List Int, a = .il ns ∧ cntOk ns.length b = false := by rcases h3 with h | h; rw [ha] at h; cases h; exact h
    have e0 : r_least BR BM [.il ns, b] = .inr (.ref BM) := rfl
    rw [e0]
    refine ⟨(fun d e => by cases e), fun C e => ?_⟩
    cases e
    refine jssx_expr (je_callE tk C_check_row hr (ja_cons (je_v 0 rfl) ja_nil) ⟨_, rfl, h1⟩ (r_row_y ha)) (jssx_head (jsx_if (v := !cntOk ns.length b) (JT.eq (JW.pt (jw_or (v := !isNum b) (u := !cntOk ns.length b) (jt_not (jt_v (v := isNum b) (je_call C_is_number hr (ja_cons (je_v 1 rfl) ja_nil) ⟨_, rfl, h2⟩))) (fun c => (jw_or1 (by
      have hl : isNum b = true := by simpa using c
      cases b with
      | int k => exact jt_not (jt_lele je_int (je_v 1 rfl) (je_len T.len (je_v 0 rfl)))
      | _ => cases hl))))) (by cases b <;> simp [isNum, cntOk])) (fun c => jssx_head (jsx_raise tk XM)) (fun c => ?_)))
    rw [hb] at c
    cases c
theorem sc_mixed : FnScope ["row", "one", "other", "came", "waiting", "at", "pair", "places", "after", "ahead", "i", "j"] ["row", "one", "other"] (defScope s_mixed) := ⟨rfl, rfl, rfl, by decide +kernel, rfl, by decide +kernel, by decide +kernel⟩
def p_mixed (ds : List D) : Prop := ∃ a b c, ds = [a, b, c] ∧ vRow a ∧ vRow b ∧ vRow c ∧ ((isRow a && (isRow b && isRow c)) = false ∨ ∃ ns ms os : List Int, a = .il ns ∧ b = .il ms ∧ c = .il os ∧ ns.length ≠ ms.length + os.length)
def r_mixed (BR BM : Addr) (ds : List D) : D ⊕ Value := match ds with | [a, b, c] => if (isRow a && (isRow b && isRow c)) = true then .inr (.ref BM) else .inr (.ref BR) | _ => .inl .non
theorem ok_mixed {f : Addr} {fd : FuncData} (F : Fun K "mixed" "mixed" s_mixed f fd) (T : Blt mg) (XM : ExcK K mg "BadMany" BM) (C_check_row : CalleeE P w K mg base 2 "check_row" p_check_row (r_check_row BR)) : FnOk P w K mg base (L2N.CX P w) 3 f fd ["row", "one", "other"] (spE K p_mixed (r_mixed BR BM)) := by
  refine fn_okE (k := 2) F sc_mixed (by rintro ds ⟨a, b, c, rfl, _⟩; rfl) fun cdv A outer s H E hr tk ds hp => ?_
  obtain ⟨a, b, c, rfl, h1, h2, h3, h4⟩ := hp
  cases hall : (isRow a && (isRow b && isRow c)) with
  | false =>
    have e0 : r_mixed BR BM [a, b, c] = .inr (.ref BR) := if_neg (by rw [hall]; exact Bool.false_ne_true)
    rw [e0]
    refine ⟨(fun d e => by cases e), fun C e => ?_⟩
    cases e
    cases ha : isRow a with
    | false => exact jssx_head (jsx_expr (jx_call tk C_check_row hr (ja_cons (je_v 0 rfl) ja_nil) ⟨_, rfl, h1⟩ (r_row_n ha)))
    | true =>
      refine jssx_expr (je_callE tk C_check_row hr (ja_cons (je_v 0 rfl) ja_nil) ⟨_, rfl, h1⟩ (r_row_y ha)) ?_
      cases hb : isRow b with
      | false => exact jssx_head (jsx_expr (jx_call tk C_check_row hr (ja_cons (je_v 1 rfl) ja_nil) ⟨_, rfl, h2⟩ (r_row_n hb)))
      | true =>
        have hc : isRow c = false := by rw [ha, hb] at hall; simpa using hall
        exact jssx_expr (je_callE tk C_check_row hr (ja_cons (je_v 1 rfl) ja_nil) ⟨_, rfl, h2⟩ (r_row_y hb)) (jssx_head (jsx_expr (jx_call tk C_check_row hr (ja_cons (je_v 2 rfl) ja_nil) ⟨_, rfl, h3⟩ (r_row_n hc))))
  | true =>
    obtain ⟨ns, ms, os, rfl, rfl, rfl, hne⟩ : ∃ ns ms os : List Int, a = .il ns ∧ b = .il ms ∧ c = .il os ∧ ns.length ≠ ms.length + os.length := by rcases h4 with h | h; rw [hall] at h; cases h; exact h
    have e0 : r_mixed BR BM [.il ns, .il ms, .il os] = .inr (.ref BM) := rfl
    rw [e0]
    refine ⟨(fun d e => by cases e), fun C e => ?_⟩
    cases e
    refine jssx_expr (je_callE tk C_check_row hr (ja_cons (je_v 0 rfl) ja_nil) ⟨.il ns, rfl, h1⟩ (r_row_y (d := .il ns) rfl)) ?_
    refine jssx_expr (je_callE tk C_check_row hr (ja_cons (je_v 1 rfl) ja_nil) ⟨.il ms, rfl, h2⟩ (r_row_y (d := .il ms) rfl)) ?_
    refine jssx_expr (je_callE tk C_check_row hr (ja_cons (je_v 2 rfl) ja_nil) ⟨.il os, rfl, h3⟩ (r_row_y (d := .il os) rfl)) ?_
    refine jssx_head (jsx_if (jt_c (jc_ne (je_len T.len (je_v 0 rfl)) (je_add (je_len T.len (je_v 1 rfl)) (je_len T.len (je_v 2 rfl))))) (fun c => jssx_head (jsx_raise tk XM)) (fun c => ?_))
    rw [Bool.not_eq_false', decide_eq_true_eq] at c
    omega

end
end Kc

set_option Elab.async false
set_option linter.all false
set_option maxRecDepth 100000
set_option maxHeartbeats 2000000
set_option autoImplicit false
namespace Kc
open PySem L2 Lf
section
variable {P : Program} {w : World} {K : PySem.W.Frag} {mg : Str → Option Value} {base : Heap}
variable {BR BK BM : Addr}
theorem v_il {ns : List Int} (h : ns.length ≤ 1000) : vRow (.il ns) := ⟨rfl, (fun ds e => by cases e), (fun ms e => by cases e; exact h)⟩
theorem v_g : vRow (.il [1, 2]) := v_il (by decide)
theorem v_1 : vRow (.il [1]) := v_il (by decide)
theorem sc_law_mix : FnScope ["_law_door", "_law_thing"] ["_law_door", "_law_thing"] (defScope s_law_mix) := ⟨rfl, rfl, rfl, by decide +kernel, rfl, by decide +kernel, by decide +kernel⟩
def rowC (BR BM : Addr) (t : D) : Addr := if isRow t = true then BM else BR
def p_law_mix (ds : List D) : Prop := ∃ (door : Int) (t : D), ds = [.int door, t] ∧ vRow t ∧ (isRow t = false ∨ ∃ ns : List Int, t = .il ns)
def r_law_mix (BR BM : Addr) (ds : List D) : D ⊕ Value := match ds with | [_, t] => .inr (.ref (rowC BR BM t)) | _ => .inl .non
theorem rm_n {BR BM : Addr} {a b c : D} (h : (isRow a && (isRow b && isRow c)) = false) : r_mixed BR BM [a, b, c] = .inr (.ref BR) := if_neg (by rw [h]; exact Bool.false_ne_true)
theorem rm_y {BR BM : Addr} {a b c : D} (h : (isRow a && (isRow b && isRow c)) = true) : r_mixed BR BM [a, b, c] = .inr (.ref BM) := if_pos h
theorem rowC_n {BR BM : Addr} {t : D} (h : isRow t = false) : rowC BR BM t = BR := if_neg (by rw [h]; exact Bool.false_ne_true)
theorem rowC_y {BR BM : Addr} {t : D} (h : isRow t = true) : rowC BR BM t = BM := if_pos h
theorem ok_law_mix {f : Addr} {fd : FuncData} (F : Fun K "_law_mix" "_law_mix" s_law_mix f fd) (T : Blt mg) (C_mixed : CalleeE P w K mg base 3 "mixed" p_mixed (r_mixed BR BM)) : FnOk P w K mg base (L2N.CX P w) 4 f fd ["_law_door", "_law_thing"] (spE K p_law_mix (r_law_mix BR BM)) := by
  refine fn_okE (k := 3) F sc_law_mix (by rintro ds ⟨a, b, rfl, _⟩; rfl) fun cdv A outer s H E hr tk ds hp => ?_
  obtain ⟨door, t, rfl, hv, ht⟩ := hp
  refine ⟨(fun d e => by cases e), fun C e => ?_⟩
  cases e
  refine jssx_head (jsx_ret (jx_if (jt_c (jc_eq (je_v 0 rfl) je_int)) (fun _ => ?_) (fun _ => ?_)))
  · cases hn : isRow t with
    | false =>
      rw [rowC_n hn]
      exact jx_call tk C_mixed hr (ja_cons (JOI.je (joi_lst (l := .frs) (ns := [1]) (ja_cons je_int ja_nil))) (ja_cons (je_v 1 rfl) (ja_cons (JOI.je (joi_lst (l := .frs) (ns := [1, 2]) (ja_cons je_int (ja_cons je_int ja_nil)))) ja_nil))) ⟨_, _, _, rfl, v_1, hv, v_g, .inl (by rw [hn]; rfl)⟩ (rm_n (by rw [hn]; rfl))
    | true =>
      obtain ⟨ns, rfl⟩ : ∃ ns : List Int, t = .il ns := by rcases ht with h | h; rw [hn] at h; cases h; exact h
      exact jx_call tk C_mixed hr (ja_cons (JOI.je (joi_lst (l := .frs) (ns := [1]) (ja_cons je_int ja_nil))) (ja_cons (je_v 1 rfl) (ja_cons (JOI.je (joi_lst (l := .frs) (ns := [1, 2]) (ja_cons je_int (ja_cons je_int ja_nil)))) ja_nil))) ⟨_, _, _, rfl, v_1, hv, v_g, .inr ⟨[1], ns, [1, 2], rfl, rfl, rfl, by show 1 ≠ ns.length + 2; omega⟩⟩ (rm_y rfl)
  · cases hn : isRow t with
    | false =>
      rw [rowC_n hn]
      exact jx_call tk C_mixed hr (ja_cons (JOI.je (joi_lst (l := .frs) (ns := [1]) (ja_cons je_int ja_nil))) (ja_cons (JOI.je (joi_lst (l := .frs) (ns := [1, 2]) (ja_cons je_int (ja_cons je_int ja_nil)))) (ja_cons (je_v 1 rfl) ja_nil))) ⟨_, _, _, rfl, v_1, v_g, hv, .inl (by rw [hn]; rfl)⟩ (rm_n (by rw [hn]; rfl))
    | true =>
      obtain ⟨ns, rfl⟩ : ∃ ns : List Int, t = .il ns := by rcases ht with h | h; rw [hn] at h; cases h; exact h
      exact jx_call tk C_mixed hr (ja_cons (JOI.je (joi_lst (l := .frs) (ns := [1]) (ja_cons je_int ja_nil))) (ja_cons (JOI.je (joi_lst (l := .frs) (ns := [1, 2]) (ja_cons je_int (ja_cons je_int ja_nil)))) (ja_cons (je_v 1 rfl) ja_nil))) ⟨_, _, _, rfl, v_1, v_g, hv, .inr ⟨[1], [1, 2], ns, rfl, rfl, rfl, by show 1 ≠ 2 + ns.length; omega⟩⟩ (rm_y rfl)
abbrev N_ask : List Str := ["_law_door", "_law_thing", "_law_good", "_law_pair"]
theorem sc_law_ask : FnScope N_ask ["_law_door", "_law_thing"] (defScope s_law_ask) := ⟨rfl, rfl, rfl, by decide +kernel, rfl, by decide +kernel, by decide +kernel⟩
def askC (BR BK BM : Addr) (door : Int) (t : D) : Addr := if door = 14 then BK else if door = 15 then BM else rowC BR BM t
structure AskOk (door : Int) (t : D) : Prop where
  d0 : 0 ≤ door
  d1 : door ≤ 15
  v : vRow t
  r : door < 14 → isRow t = false ∨ (11 ≤ door ∧ ∃ ns : List Int, t = .il ns ∧ (door = 11 → ns.length ≠ 4))
  k : door = 14 → isKi t = false
  m : door = 15 → cntOk 2 t = false
def p_law_ask (ds : List D) : Prop := ∃ (door : Int) (t : D), ds = [.int door, t] ∧ AskOk door t
def r_law_ask (BR BK BM : Addr) (ds : List D) : D ⊕ Value := match ds with | [.int door, t] => .inr (.ref (askC BR BK BM door t)) | _ => .inl .non
theorem ask_r {BR BK BM : Addr} {door : Int} {t : D} (h : door < 14) : askC BR BK BM door t = rowC BR BM t := by unfold askC; rw [if_neg (by omega), if_neg (by omega)]
theorem ok_law_ask {f : Addr} {fd : FuncData} (F : Fun K "_law_ask" "_law_ask" s_law_ask f fd) (T : Blt mg) (C_left : CalleeE P w K mg base 3 "left" p_two (r_br BR)) (C_longest : CalleeE P w K mg base 3 "longest" p_two (r_br BR)) (C_shortest : CalleeE P w K mg base 3 "shortest" p_two (r_br BR))
    (C_ways : CalleeE P w K mg base 3 "ways" p_two (r_br BR)) (C_kin : CalleeE P w K mg base 3 "kin" p_kin (r_br BR)) (C_missing : CalleeE P w K mg base 3 "missing" p_missing (r_missing BR BK)) (C_least : CalleeE P w K mg base 3 "least" p_least (r_least BR BM))
    (C_mixed : CalleeE P w K mg base 3 "mixed" p_mixed (r_mixed BR BM)) (C_law_mix : CalleeE P w K mg base 4 "_law_mix" p_law_mix (r_law_mix BR BM)) : FnOk P w K mg base (L2N.CX P w) 5 f fd ["_law_door", "_law_thing"] (spE K p_law_ask (r_law_ask BR BK BM)) := by
  refine fn_okE (k := 4) F sc_law_ask (by rintro ds ⟨a, b, rfl, _⟩; rfl) fun cdv A outer s H E hr tk ds hp => ?_
  obtain ⟨door, t, rfl, hA⟩ := hp
  refine ⟨(fun d e => by cases e), fun C e => ?_⟩
  cases e
  have hv := hA.v
  obtain ⟨fl, fdl, psl, Fl, ml, kl, bl⟩ := C_left.ex
  obtain ⟨fo, fdo, pso, Fo, mo, ko, bo⟩ := C_longest.ex
  obtain ⟨fs, fds, pss, Fs, ms, ks, bs⟩ := C_shortest.ex
  refine jssx_set 2 (JOI.je (joi_lst (l := .frs) (ns := [1, 2]) (ja_cons je_int (ja_cons je_int ja_nil)))) ?_ (by decide) sc_law_ask.nd
  have hd : door = 0 ∨ door = 1 ∨ door = 2 ∨ door = 3 ∨ door = 4 ∨ door = 5 ∨ door = 6 ∨ door = 7 ∨ door = 8 ∨ door = 9 ∨ door = 10 ∨ door = 11 ∨ door = 12 ∨ door = 13 ∨ door = 14 ∨ door = 15 := by
    have := hA.d0
    have := hA.d1
    omega
  rcases hd with rfl | rfl | rfl | rfl | rfl | rfl | rfl | rfl | rfl | rfl | rfl | rfl | rfl | rfl | rfl | rfl
  · have hn : isRow t = false := by rcases hA.r (by decide) with h | h; exact h; exact absurd h.1 (by decide)
    rw [ask_r (by decide), rowC_n hn]
    refine jssx_if (v := true) (JT.eq (jt_c (jc_lt (je_v 0 rfl) je_int)) (by decide)) (fun _ => ?_) (fun c => by cases c)
    refine jssx_set 3 (l := .imm) (d := .tup [t, .il [1, 2]]) (je_ixD (ds := [.tup [t, .il [1, 2]], .tup [.il [1, 2], t]]) (JO.je (jo_lst (l := .imm) (ja_cons (je_tup (l := .imm) (ja_cons (je_v 1 rfl) (ja_cons (je_v 2 rfl) ja_nil))) (ja_cons (je_tup (l := .imm) (ja_cons (je_v 2 rfl) (ja_cons (je_v 1 rfl) ja_nil))) ja_nil)))) (je_mod (je_v 0 rfl) je_int (by decide)) ⟨of_decide_eq_true rfl, of_decide_eq_true rfl⟩ rfl) ?_ (by decide) sc_law_ask.nd
    exact jssx_head (jsx_ret (jx_callV tk (je_ixD (d := .ptr fl) (ds := [.ptr fl, .ptr fo, .ptr fs]) (JO.je (jo_lst (l := .frs) (ja_cons (je_fun ml) (ja_cons (je_fun mo) (ja_cons (je_fun ms) ja_nil))))) (je_div (je_v 0 rfl) je_int ⟨by decide, by decide⟩) ⟨of_decide_eq_true rfl, of_decide_eq_true rfl⟩ rfl) ⟨⟨_, _, Fl, kl, bl⟩⟩ hr (ja_cons (je_ixT (d := t) (ds := [t, .il [1, 2]]) (je_v 3 rfl) je_int ⟨of_decide_eq_true rfl, of_decide_eq_true rfl⟩ rfl) (ja_cons (je_ixT (d := .il [1, 2]) (ds := [t, .il [1, 2]]) (je_v 3 rfl) je_int ⟨of_decide_eq_true rfl, of_decide_eq_true rfl⟩ rfl) ja_nil)) ⟨_, _, rfl, hv, v_g, by rw [hn]; rfl⟩ rfl))
  · have hn : isRow t = false := by rcases hA.r (by decide) with h | h; exact h; exact absurd h.1 (by decide)
    rw [ask_r (by decide), rowC_n hn]
    refine jssx_if (v := true) (JT.eq (jt_c (jc_lt (je_v 0 rfl) je_int)) (by decide)) (fun _ => ?_) (fun c => by cases c)
    refine jssx_set 3 (l := .imm) (d := .tup [.il [1, 2], t]) (je_ixD (ds := [.tup [t, .il [1, 2]], .tup [.il [1, 2], t]]) (JO.je (jo_lst (l := .imm) (ja_cons (je_tup (l := .imm) (ja_cons (je_v 1 rfl) (ja_cons (je_v 2 rfl) ja_nil))) (ja_cons (je_tup (l := .imm) (ja_cons (je_v 2 rfl) (ja_cons (je_v 1 rfl) ja_nil))) ja_nil)))) (je_mod (je_v 0 rfl) je_int (by decide)) ⟨of_decide_eq_true rfl, of_decide_eq_true rfl⟩ rfl) ?_ (by decide) sc_law_ask.nd
    exact jssx_head (jsx_ret (jx_callV tk (je_ixD (d := .ptr fl) (ds := [.ptr fl, .ptr fo, .ptr fs]) (JO.je (jo_lst (l := .frs) (ja_cons (je_fun ml) (ja_cons (je_fun mo) (ja_cons (je_fun ms) ja_nil))))) (je_div (je_v 0 rfl) je_int ⟨by decide, by decide⟩) ⟨of_decide_eq_true rfl, of_decide_eq_true rfl⟩ rfl) ⟨⟨_, _, Fl, kl, bl⟩⟩ hr (ja_cons (je_ixT (d := .il [1, 2]) (ds := [.il [1, 2], t]) (je_v 3 rfl) je_int ⟨of_decide_eq_true rfl, of_decide_eq_true rfl⟩ rfl) (ja_cons (je_ixT (d := t) (ds := [.il [1, 2], t]) (je_v 3 rfl) je_int ⟨of_decide_eq_true rfl, of_decide_eq_true rfl⟩ rfl) ja_nil)) ⟨_, _, rfl, v_g, hv, by rw [hn]; rfl⟩ rfl))
  · have hn : isRow t = false := by rcases hA.r (by decide) with h | h; exact h; exact absurd h.1 (by decide)
    rw [ask_r (by decide), rowC_n hn]
    refine jssx_if (v := true) (JT.eq (jt_c (jc_lt (je_v 0 rfl) je_int)) (by decide)) (fun _ => ?_) (fun c => by cases c)
    refine jssx_set 3 (l := .imm) (d := .tup [t, .il [1, 2]]) (je_ixD (ds := [.tup [t, .il [1, 2]], .tup [.il [1, 2], t]]) (JO.je (jo_lst (l := .imm) (ja_cons (je_tup (l := .imm) (ja_cons (je_v 1 rfl) (ja_cons (je_v 2 rfl) ja_nil))) (ja_cons (je_tup (l := .imm) (ja_cons (je_v 2 rfl) (ja_cons (je_v 1 rfl) ja_nil))) ja_nil)))) (je_mod (je_v 0 rfl) je_int (by decide)) ⟨of_decide_eq_true rfl, of_decide_eq_true rfl⟩ rfl) ?_ (by decide) sc_law_ask.nd
    exact jssx_head (jsx_ret (jx_callV tk (je_ixD (d := .ptr fo) (ds := [.ptr fl, .ptr fo, .ptr fs]) (JO.je (jo_lst (l := .frs) (ja_cons (je_fun ml) (ja_cons (je_fun mo) (ja_cons (je_fun ms) ja_nil))))) (je_div (je_v 0 rfl) je_int ⟨by decide, by decide⟩) ⟨of_decide_eq_true rfl, of_decide_eq_true rfl⟩ rfl) ⟨⟨_, _, Fo, ko, bo⟩⟩ hr (ja_cons (je_ixT (d := t) (ds := [t, .il [1, 2]]) (je_v 3 rfl) je_int ⟨of_decide_eq_true rfl, of_decide_eq_true rfl⟩ rfl) (ja_cons (je_ixT (d := .il [1, 2]) (ds := [t, .il [1, 2]]) (je_v 3 rfl) je_int ⟨of_decide_eq_true rfl, of_decide_eq_true rfl⟩ rfl) ja_nil)) ⟨_, _, rfl, hv, v_g, by rw [hn]; rfl⟩ rfl))
  · have hn : isRow t = false := by rcases hA.r (by decide) with h | h; exact h; exact absurd h.1 (by decide)
    rw [ask_r (by decide), rowC_n hn]
    refine jssx_if (v := true) (JT.eq (jt_c (jc_lt (je_v 0 rfl) je_int)) (by decide)) (fun _ => ?_) (fun c => by cases c)
    refine jssx_set 3 (l := .imm) (d := .tup [.il [1, 2], t]) (je_ixD (ds := [.tup [t, .il [1, 2]], .tup [.il [1, 2], t]]) (JO.je (jo_lst (l := .imm) (ja_cons (je_tup (l := .imm) (ja_cons (je_v 1 rfl) (ja_cons (je_v 2 rfl) ja_nil))) (ja_cons (je_tup (l := .imm) (ja_cons (je_v 2 rfl) (ja_cons (je_v 1 rfl) ja_nil))) ja_nil)))) (je_mod (je_v 0 rfl) je_int (by decide)) ⟨of_decide_eq_true rfl, of_decide_eq_true rfl⟩ rfl) ?_ (by decide) sc_law_ask.nd
    exact jssx_head (jsx_ret (jx_callV tk (je_ixD (d := .ptr fo) (ds := [.ptr fl, .ptr fo, .ptr fs]) (JO.je (jo_lst (l := .frs) (ja_cons (je_fun ml) (ja_cons (je_fun mo) (ja_cons (je_fun ms) ja_nil))))) (je_div (je_v 0 rfl) je_int ⟨by decide, by decide⟩) ⟨of_decide_eq_true rfl, of_decide_eq_true rfl⟩ rfl) ⟨⟨_, _, Fo, ko, bo⟩⟩ hr (ja_cons (je_ixT (d := .il [1, 2]) (ds := [.il [1, 2], t]) (je_v 3 rfl) je_int ⟨of_decide_eq_true rfl, of_decide_eq_true rfl⟩ rfl) (ja_cons (je_ixT (d := t) (ds := [.il [1, 2], t]) (je_v 3 rfl) je_int ⟨of_decide_eq_true rfl, of_decide_eq_true rfl⟩ rfl) ja_nil)) ⟨_, _, rfl, v_g, hv, by rw [hn]; rfl⟩ rfl))
  · have hn : isRow t = false := by rcases hA.r (by decide) with h | h; exact h; exact absurd h.1 (by decide)
    rw [ask_r (by decide), rowC_n hn]
    refine jssx_if (v := true) (JT.eq (jt_c (jc_lt (je_v 0 rfl) je_int)) (by decide)) (fun _ => ?_) (fun c => by cases c)
    refine jssx_set 3 (l := .imm) (d := .tup [t, .il [1, 2]]) (je_ixD (ds := [.tup [t, .il [1, 2]], .tup [.il [1, 2], t]]) (JO.je (jo_lst (l := .imm) (ja_cons (je_tup (l := .imm) (ja_cons (je_v 1 rfl) (ja_cons (je_v 2 rfl) ja_nil))) (ja_cons (je_tup (l := .imm) (ja_cons (je_v 2 rfl) (ja_cons (je_v 1 rfl) ja_nil))) ja_nil)))) (je_mod (je_v 0 rfl) je_int (by decide)) ⟨of_decide_eq_true rfl, of_decide_eq_true rfl⟩ rfl) ?_ (by decide) sc_law_ask.nd
    exact jssx_head (jsx_ret (jx_callV tk (je_ixD (d := .ptr fs) (ds := [.ptr fl, .ptr fo, .ptr fs]) (JO.je (jo_lst (l := .frs) (ja_cons (je_fun ml) (ja_cons (je_fun mo) (ja_cons (je_fun ms) ja_nil))))) (je_div (je_v 0 rfl) je_int ⟨by decide, by decide⟩) ⟨of_decide_eq_true rfl, of_decide_eq_true rfl⟩ rfl) ⟨⟨_, _, Fs, ks, bs⟩⟩ hr (ja_cons (je_ixT (d := t) (ds := [t, .il [1, 2]]) (je_v 3 rfl) je_int ⟨of_decide_eq_true rfl, of_decide_eq_true rfl⟩ rfl) (ja_cons (je_ixT (d := .il [1, 2]) (ds := [t, .il [1, 2]]) (je_v 3 rfl) je_int ⟨of_decide_eq_true rfl, of_decide_eq_true rfl⟩ rfl) ja_nil)) ⟨_, _, rfl, hv, v_g, by rw [hn]; rfl⟩ rfl))
  · have hn : isRow t = false := by rcases hA.r (by decide) with h | h; exact h; exact absurd h.1 (by decide)
    rw [ask_r (by decide), rowC_n hn]
    refine jssx_if (v := true) (JT.eq (jt_c (jc_lt (je_v 0 rfl) je_int)) (by decide)) (fun _ => ?_) (fun c => by cases c)
    refine jssx_set 3 (l := .imm) (d := .tup [.il [1, 2], t]) (je_ixD (ds := [.tup [t, .il [1, 2]], .tup [.il [1, 2], t]]) (JO.je (jo_lst (l := .imm) (ja_cons (je_tup (l := .imm) (ja_cons (je_v 1 rfl) (ja_cons (je_v 2 rfl) ja_nil))) (ja_cons (je_tup (l := .imm) (ja_cons (je_v 2 rfl) (ja_cons (je_v 1 rfl) ja_nil))) ja_nil)))) (je_mod (je_v 0 rfl) je_int (by decide)) ⟨of_decide_eq_true rfl, of_decide_eq_true rfl⟩ rfl) ?_ (by decide) sc_law_ask.nd
    exact jssx_head (jsx_ret (jx_callV tk (je_ixD (d := .ptr fs) (ds := [.ptr fl, .ptr fo, .ptr fs]) (JO.je (jo_lst (l := .frs) (ja_cons (je_fun ml) (ja_cons (je_fun mo) (ja_cons (je_fun ms) ja_nil))))) (je_div (je_v 0 rfl) je_int ⟨by decide, by decide⟩) ⟨of_decide_eq_true rfl, of_decide_eq_true rfl⟩ rfl) ⟨⟨_, _, Fs, ks, bs⟩⟩ hr (ja_cons (je_ixT (d := .il [1, 2]) (ds := [.il [1, 2], t]) (je_v 3 rfl) je_int ⟨of_decide_eq_true rfl, of_decide_eq_true rfl⟩ rfl) (ja_cons (je_ixT (d := t) (ds := [.il [1, 2], t]) (je_v 3 rfl) je_int ⟨of_decide_eq_true rfl, of_decide_eq_true rfl⟩ rfl) ja_nil)) ⟨_, _, rfl, v_g, hv, by rw [hn]; rfl⟩ rfl))
  · have hn : isRow t = false := by rcases hA.r (by decide) with h | h; exact h; exact absurd h.1 (by decide)
    rw [ask_r (by decide), rowC_n hn]
    refine jssx_if (v := false) (JT.eq (jt_c (jc_lt (je_v 0 rfl) je_int)) (by decide)) (fun c => by cases c) (fun _ => ?_)
    refine jssx_if (v := true) (JT.eq (jt_c (jc_lt (je_v 0 rfl) je_int)) (by decide)) (fun _ => ?_) (fun c => by cases c)
    exact jssx_head (jsx_ret (jx_if (v := true) (JT.eq (jt_c (jc_eq (je_v 0 rfl) je_int)) (by decide)) (fun _ => jx_call tk C_ways hr (ja_cons (je_v 1 rfl) (ja_cons (je_v 2 rfl) ja_nil)) ⟨_, _, rfl, hv, v_g, by rw [hn]; rfl⟩ rfl) (fun c => by cases c)))
  · have hn : isRow t = false := by rcases hA.r (by decide) with h | h; exact h; exact absurd h.1 (by decide)
    rw [ask_r (by decide), rowC_n hn]
    refine jssx_if (v := false) (JT.eq (jt_c (jc_lt (je_v 0 rfl) je_int)) (by decide)) (fun c => by cases c) (fun _ => ?_)
    refine jssx_if (v := true) (JT.eq (jt_c (jc_lt (je_v 0 rfl) je_int)) (by decide)) (fun _ => ?_) (fun c => by cases c)
    exact jssx_head (jsx_ret (jx_if (v := false) (JT.eq (jt_c (jc_eq (je_v 0 rfl) je_int)) (by decide)) (fun c => by cases c) (fun _ => jx_if (v := true) (JT.eq (jt_c (jc_eq (je_v 0 rfl) je_int)) (by decide)) (fun _ => jx_call tk C_ways hr (ja_cons (je_v 2 rfl) (ja_cons (je_v 1 rfl) ja_nil)) ⟨_, _, rfl, v_g, hv, by rw [hn]; rfl⟩ rfl) (fun c => by cases c))))
  · have hn : isRow t = false := by rcases hA.r (by decide) with h | h; exact h; exact absurd h.1 (by decide)
    rw [ask_r (by decide), rowC_n hn]
    refine jssx_if (v := false) (JT.eq (jt_c (jc_lt (je_v 0 rfl) je_int)) (by decide)) (fun c => by cases c) (fun _ => ?_)
    refine jssx_if (v := true) (JT.eq (jt_c (jc_lt (je_v 0 rfl) je_int)) (by decide)) (fun _ => ?_) (fun c => by cases c)
    exact jssx_head (jsx_ret (jx_if (v := false) (JT.eq (jt_c (jc_eq (je_v 0 rfl) je_int)) (by decide)) (fun c => by cases c) (fun _ => jx_if (v := false) (JT.eq (jt_c (jc_eq (je_v 0 rfl) je_int)) (by decide)) (fun c => by cases c) (fun _ => jx_call tk C_kin hr (ja_cons (je_v 1 rfl) ja_nil) ⟨_, rfl, hv, hn⟩ rfl))))
  · have hn : isRow t = false := by rcases hA.r (by decide) with h | h; exact h; exact absurd h.1 (by decide)
    rw [ask_r (by decide), rowC_n hn]
    refine jssx_if (v := false) (JT.eq (jt_c (jc_lt (je_v 0 rfl) je_int)) (by decide)) (fun c => by cases c) (fun _ => ?_)
    refine jssx_if (v := false) (JT.eq (jt_c (jc_lt (je_v 0 rfl) je_int)) (by decide)) (fun c => by cases c) (fun _ => ?_)
    refine jssx_if (v := true) (JT.eq (jt_c (jc_lt (je_v 0 rfl) je_int)) (by decide)) (fun _ => ?_) (fun c => by cases c)
    exact jssx_head (jsx_ret (jx_if (v := true) (JT.eq (jt_c (jc_eq (je_v 0 rfl) je_int)) (by decide)) (fun _ => jx_call tk C_missing hr (ja_cons (je_v 1 rfl) (ja_cons je_non ja_nil)) ⟨_, _, rfl, hv, rfl, .inl hn⟩ (if_neg (by rw [hn]; exact Bool.false_ne_true))) (fun c => by cases c)))
  · have hn : isRow t = false := by rcases hA.r (by decide) with h | h; exact h; exact absurd h.1 (by decide)
    rw [ask_r (by decide), rowC_n hn]
    refine jssx_if (v := false) (JT.eq (jt_c (jc_lt (je_v 0 rfl) je_int)) (by decide)) (fun c => by cases c) (fun _ => ?_)
    refine jssx_if (v := false) (JT.eq (jt_c (jc_lt (je_v 0 rfl) je_int)) (by decide)) (fun c => by cases c) (fun _ => ?_)
    refine jssx_if (v := true) (JT.eq (jt_c (jc_lt (je_v 0 rfl) je_int)) (by decide)) (fun _ => ?_) (fun c => by cases c)
    exact jssx_head (jsx_ret (jx_if (v := false) (JT.eq (jt_c (jc_eq (je_v 0 rfl) je_int)) (by decide)) (fun c => by cases c) (fun _ => jx_call tk C_least hr (ja_cons (je_v 1 rfl) (ja_cons je_non ja_nil)) ⟨_, _, rfl, hv, rfl, .inl hn⟩ (if_neg (by rw [hn]; exact Bool.false_ne_true)))))
  · rw [ask_r (by decide)]
    refine jssx_if (v := false) (JT.eq (jt_c (jc_lt (je_v 0 rfl) je_int)) (by decide)) (fun c => by cases c) (fun _ => ?_)
    refine jssx_if (v := false) (JT.eq (jt_c (jc_lt (je_v 0 rfl) je_int)) (by decide)) (fun c => by cases c) (fun _ => ?_)
    refine jssx_if (v := false) (JT.eq (jt_c (jc_lt (je_v 0 rfl) je_int)) (by decide)) (fun c => by cases c) (fun _ => ?_)
    refine jssx_if (v := true) (JT.eq (jt_c (jc_lt (je_v 0 rfl) je_int)) (by decide)) (fun _ => ?_) (fun c => by cases c)
    refine jssx_head (jsx_ret (jx_if (v := true) (JT.eq (jt_c (jc_eq (je_v 0 rfl) je_int)) (by decide)) (fun _ => jx_lst ?_) (fun c => by cases c)))
    cases hn : isRow t with
    | false =>
      rw [rowC_n hn]
      exact jx_call tk C_mixed hr (ja_cons (je_v 1 rfl) (ja_cons (je_v 2 rfl) (ja_cons (je_v 2 rfl) ja_nil))) ⟨_, _, _, rfl, hv, v_g, v_g, .inl (by rw [hn]; rfl)⟩ (rm_n (by rw [hn]; rfl))
    | true =>
      obtain ⟨ns, rfl, hne⟩ : ∃ ns : List Int, t = .il ns ∧ ns.length ≠ 4 := by
        rcases hA.r (by decide) with h | h
        · rw [hn] at h; cases h
        · obtain ⟨ns, e, q⟩ := h.2
          exact ⟨ns, e, q rfl⟩
      exact jx_call tk C_mixed hr (ja_cons (je_v 1 rfl) (ja_cons (je_v 2 rfl) (ja_cons (je_v 2 rfl) ja_nil))) ⟨_, _, _, rfl, hv, v_g, v_g, .inr ⟨ns, [1, 2], [1, 2], rfl, rfl, rfl, hne⟩⟩ (rm_y rfl)
  · rw [ask_r (by decide)]
    refine jssx_if (v := false) (JT.eq (jt_c (jc_lt (je_v 0 rfl) je_int)) (by decide)) (fun c => by cases c) (fun _ => ?_)
    refine jssx_if (v := false) (JT.eq (jt_c (jc_lt (je_v 0 rfl) je_int)) (by decide)) (fun c => by cases c) (fun _ => ?_)
    refine jssx_if (v := false) (JT.eq (jt_c (jc_lt (je_v 0 rfl) je_int)) (by decide)) (fun c => by cases c) (fun _ => ?_)
    refine jssx_if (v := true) (JT.eq (jt_c (jc_lt (je_v 0 rfl) je_int)) (by decide)) (fun _ => ?_) (fun c => by cases c)
    exact jssx_head (jsx_ret (jx_if (v := false) (JT.eq (jt_c (jc_eq (je_v 0 rfl) je_int)) (by decide)) (fun c => by cases c) (fun _ => jx_call tk C_law_mix hr (ja_cons (je_v 0 rfl) (ja_cons (je_v 1 rfl) ja_nil)) ⟨_, _, rfl, hv, (hA.r (by decide)).imp id fun h => ⟨h.2.choose, h.2.choose_spec.1⟩⟩ rfl)))
  · rw [ask_r (by decide)]
    refine jssx_if (v := false) (JT.eq (jt_c (jc_lt (je_v 0 rfl) je_int)) (by decide)) (fun c => by cases c) (fun _ => ?_)
    refine jssx_if (v := false) (JT.eq (jt_c (jc_lt (je_v 0 rfl) je_int)) (by decide)) (fun c => by cases c) (fun _ => ?_)
    refine jssx_if (v := false) (JT.eq (jt_c (jc_lt (je_v 0 rfl) je_int)) (by decide)) (fun c => by cases c) (fun _ => ?_)
    refine jssx_if (v := true) (JT.eq (jt_c (jc_lt (je_v 0 rfl) je_int)) (by decide)) (fun _ => ?_) (fun c => by cases c)
    exact jssx_head (jsx_ret (jx_if (v := false) (JT.eq (jt_c (jc_eq (je_v 0 rfl) je_int)) (by decide)) (fun c => by cases c) (fun _ => jx_call tk C_law_mix hr (ja_cons (je_v 0 rfl) (ja_cons (je_v 1 rfl) ja_nil)) ⟨_, _, rfl, hv, (hA.r (by decide)).imp id fun h => ⟨h.2.choose, h.2.choose_spec.1⟩⟩ rfl)))
  · have hC : askC BR BK BM 14 t = BK := rfl
    rw [hC]
    refine jssx_if (v := false) (JT.eq (jt_c (jc_lt (je_v 0 rfl) je_int)) (by decide)) (fun c => by cases c) (fun _ => ?_)
    refine jssx_if (v := false) (JT.eq (jt_c (jc_lt (je_v 0 rfl) je_int)) (by decide)) (fun c => by cases c) (fun _ => ?_)
    refine jssx_if (v := false) (JT.eq (jt_c (jc_lt (je_v 0 rfl) je_int)) (by decide)) (fun c => by cases c) (fun _ => ?_)
    refine jssx_if (v := false) (JT.eq (jt_c (jc_lt (je_v 0 rfl) je_int)) (by decide)) (fun c => by cases c) (fun _ => ?_)
    exact jssx_head (jsx_ret (jx_if (v := true) (JT.eq (jt_c (jc_eq (je_v 0 rfl) je_int)) (by decide)) (fun _ => jx_call tk C_missing hr (ja_cons (je_v 2 rfl) (ja_cons (je_v 1 rfl) ja_nil)) ⟨_, _, rfl, v_g, hv.1, .inr (hA.k rfl)⟩ rfl) (fun c => by cases c)))
  · have hC : askC BR BK BM 15 t = BM := rfl
    rw [hC]
    refine jssx_if (v := false) (JT.eq (jt_c (jc_lt (je_v 0 rfl) je_int)) (by decide)) (fun c => by cases c) (fun _ => ?_)
    refine jssx_if (v := false) (JT.eq (jt_c (jc_lt (je_v 0 rfl) je_int)) (by decide)) (fun c => by cases c) (fun _ => ?_)
    refine jssx_if (v := false) (JT.eq (jt_c (jc_lt (je_v 0 rfl) je_int)) (by decide)) (fun c => by cases c) (fun _ => ?_)
    refine jssx_if (v := false) (JT.eq (jt_c (jc_lt (je_v 0 rfl) je_int)) (by decide)) (fun c => by cases c) (fun _ => ?_)
    exact jssx_head (jsx_ret (jx_if (v := false) (JT.eq (jt_c (jc_eq (je_v 0 rfl) je_int)) (by decide)) (fun c => by cases c) (fun _ => jx_call tk C_least hr (ja_cons (je_v 2 rfl) (ja_cons (je_v 1 rfl) ja_nil)) ⟨_, _, rfl, v_g, hv.1, .inr ⟨[1, 2], rfl, hA.m rfl⟩⟩ rfl)))

end
end Kc

set_option Elab.async false
set_option linter.all false
set_option maxRecDepth 100000
set_option maxHeartbeats 2000000
set_option autoImplicit false
namespace Kc
open PySem L2 Lf
section
variable {P : Program} {w : World} {K : PySem.W.Frag} {mg : Str → Option Value} {base : Heap}
variable {BR BK BM LE : Addr}
theorem jaR {X : Cx} {la : Lv} {e : Expr} {es : List Expr} {ρ : PEnv} {d : D} {ds : List D} (h : JE X la e ρ d) (hr : JA X .frs es ρ ds) (hl : Lv.le la .frs = true) (hs : starEach (e :: es) X.env = (false, eval e X.env) :: starEach es X.env) : JA X .frs (e :: es) ρ (d :: ds) := ja_cons h hr hl hs
theorem lstRet {X : Cx} {es : List Expr} {ρ : PEnv} {ds : List D} {pos p : Pos} {P : PEnds} (h : JA X .frs es ρ ds) (hz : ds.length ≤ 100000) (hp : P.rt (.lst ds)) : JSs X [.Return (some (.List es pos)) p] P ρ := jss_one (js_ret (JO.je (jo_lst h (hz := hz))) hp)
theorem lstCat {X : Cx} {x : Str} {es es2 : List Expr} {ρ : PEnv} {ds ds2 : List D} {p1 p2 p3 p4 p5 p6 p7 : Pos} {P : PEnds} (n : Nat) (h : JA X .frs es ρ ds) (h2 : JA X .frs es2 (ρ.set n (some (.v .frs (.lst ds)))) ds2) (hn : n < ρ.length) (hz : ds.length + ds2.length ≤ 100000) (hp : P.rt (.lst (ds ++ ds2))) (hN : X.N.Nodup) (hi : X.N[n]? = some x) (hx : X.env.scope.names.lookup x = some .local)
    (hd : (x == ("__debug__" : Str)) = false) (hcd : (x == ("__classdict__" : Str)) = false) : JSs X [.Assign [.Name x p1] (.List es p2) p3, .Return (some (.BinOp (.Name x p4) .Add (.List es2 p5) p6)) p7] P ρ :=
  jss_cons (js_set n (JO.je (jo_lst h (hz := by omega))) (jss_one (js_ret (JO.je (jo_cat (l := .frs) (je_v n (l := .frs) (d := .lst ds) (by rw [List.getElem?_set_self hn]) hi (.inl hx) hd hcd) (JO.je (jo_lst h2 (hz := by omega))) (hz := hz))) hp)) (by decide) hN hi (.inl hx) (sw_ns rfl) (.inr hx))
def rows1 (c : Int) : List D := [.non, .tup [], .tup [.int 1, .int 2], .str "12", .dic, .lst [.non], .lst [.str "1"], .lst [.bl true], .lst [.int 1, .bl false], .lst [.int 1, .int 2, .str "3"], .lst [.il [1]], .lst [.tup [.int 1, .int 2]], .int c, .int 5]
def rows2 (c : Int) : List D := [.lst [.int c, .non], .lst [.non, .int c], .lst [.int c, .bl true], .lst [.int c, .il [c]]]
def rowsL (c : Int) : List D := rows1 c ++ rows2 c
def kindsL (c : Int) : List D := [.non, .int 0, .int (-1), .int (-1 - c % 9), .bl true, .str "2", .il [2], .tup [.int 2], .dic]
def countsL (c : Int) : List D := [.non, .int (-1), .int (-1 - c % 9), .int 3, .int (3 + c % 9), .bl true, .str "1", .il [1], .tup [.int 0]]
def p_things (ds : List D) : Prop := ∃ c : Int, ds = [.int c]
def g_things (gl : Int → List D) (ds : List D) : D := match ds with | [.int c] => .lst (gl c) | _ => .non
theorem sc_law_rows : FnScope ["_law_cell", "_law_some"] ["_law_cell"] (defScope s_law_rows) := ⟨rfl, rfl, rfl, by decide +kernel, rfl, by decide +kernel, by decide +kernel⟩
theorem ok_law_rows {f : Addr} {fd : FuncData} (F : Fun K "_law_rows" "_law_rows" s_law_rows f fd) (T : Blt mg) : FnOk P w K mg base CX0 1 f fd ["_law_cell"] (spF K p_things (g_things rowsL)) := by
  refine fn_ok (k := 0) F sc_law_rows (by rintro ds ⟨c, rfl⟩; rfl) fun cdv A outer s H E hr ds hp => ?_
  obtain ⟨c, rfl⟩ := hp
  exact @lstCat _ _ _ _ _ (rows1 c) (rows2 c) _ _ _ _ _ _ _ _ 1 (@jaR _ _ _ _ _ _ _ je_non (@jaR _ _ _ _ _ _ _ (je_tup (l := .frs) ja_nil) (@jaR _ _ _ _ _ _ _ (je_tup (l := .frs) (@jaR _ _ _ _ _ _ _ je_int (@jaR _ _ _ _ _ _ _ je_int ja_nil rfl (star_c rfl)) rfl (star_c rfl))) (@jaR _ _ _ _ _ _ _ je_str (@jaR _ _ _ _ _ _ _ je_dic (@jaR _ _ _ _ _ _ _ (JO.je (jo_lst (l := .frs) (@jaR _ _ _ _ _ _ _ je_non ja_nil rfl (star_c rfl)))) (@jaR _ _ _ _ _ _ _ (JO.je (jo_lst (l := .frs) (@jaR _ _ _ _ _ _ _ je_str ja_nil rfl (star_c rfl)))) (@jaR _ _ _ _ _ _ _ (JO.je (jo_lst (l := .frs) (@jaR _ _ _ _ _ _ _ je_bl ja_nil rfl (star_c rfl)))) (@jaR _ _ _ _ _ _ _ (JO.je (jo_lst (l := .frs) (@jaR _ _ _ _ _ _ _ je_int (@jaR _ _ _ _ _ _ _ je_bl ja_nil rfl (star_c rfl)) rfl (star_c rfl)))) (@jaR _ _ _ _ _ _ _ (JO.je (jo_lst (l := .frs) (@jaR _ _ _ _ _ _ _ je_int (@jaR _ _ _ _ _ _ _ je_int (@jaR _ _ _ _ _ _ _ je_str ja_nil rfl (star_c rfl)) rfl (star_c rfl)) rfl (star_c rfl)))) (@jaR _ _ _ _ _ _ _ (JO.je (jo_lst (l := .frs) (@jaR _ _ _ _ _ _ _ (JOI.je (joi_lst (l := .frs) (ns := [1]) (@jaR _ _ _ _ _ _ _ je_int ja_nil rfl (star_c rfl)))) ja_nil rfl (star_c rfl)))) (@jaR _ _ _ _ _ _ _ (JO.je (jo_lst (l := .frs) (@jaR _ _ _ _ _ _ _ (je_tup (l := .frs) (@jaR _ _ _ _ _ _ _ je_int (@jaR _ _ _ _ _ _ _ je_int ja_nil rfl (star_c rfl)) rfl (star_c rfl))) ja_nil rfl (star_c rfl)))) (@jaR _ _ _ _ _ _ _ (JE.sc (l' := .frs) (je_v 0 rfl) rfl) (@jaR _ _ _ _ _ _ _ je_int ja_nil rfl (star_c rfl)) rfl (star_c rfl)) rfl (star_c rfl)) rfl (star_c rfl)) rfl (star_c rfl)) rfl (star_c rfl)) rfl (star_c rfl)) rfl (star_c rfl)) rfl (star_c rfl)) rfl (star_c rfl)) rfl (star_c rfl)) rfl (star_c rfl)) rfl (star_c rfl)) rfl (star_c rfl)) (@jaR _ _ _ _ _ _ _ (JO.je (jo_lst (l := .frs) (@jaR _ _ _ _ _ _ _ (JE.sc (l' := .frs) (je_v 0 rfl) rfl) (@jaR _ _ _ _ _ _ _ je_non ja_nil rfl (star_c rfl)) rfl (star_c rfl)))) (@jaR _ _ _ _ _ _ _ (JO.je (jo_lst (l := .frs) (@jaR _ _ _ _ _ _ _ je_non (@jaR _ _ _ _ _ _ _ (JE.sc (l' := .frs) (je_v 0 rfl) rfl) ja_nil rfl (star_c rfl)) rfl (star_c rfl)))) (@jaR _ _ _ _ _ _ _ (JO.je (jo_lst (l := .frs) (@jaR _ _ _ _ _ _ _ (JE.sc (l' := .frs) (je_v 0 rfl) rfl) (@jaR _ _ _ _ _ _ _ je_bl ja_nil rfl (star_c rfl)) rfl (star_c rfl)))) (@jaR _ _ _ _ _ _ _ (JO.je (jo_lst (l := .frs) (@jaR _ _ _ _ _ _ _ (JE.sc (l' := .frs) (je_v 0 rfl) rfl) (@jaR _ _ _ _ _ _ _ (JOI.je (joi_lst (l := .frs) (ns := [c]) (@jaR _ _ _ _ _ _ _ (JE.sc (l' := .frs) (je_v 0 rfl) rfl) ja_nil rfl (star_c rfl)))) ja_nil rfl (star_c rfl)) rfl (star_c rfl)))) ja_nil rfl (star_c rfl)) rfl (star_c rfl)) rfl (star_c rfl)) rfl (star_c rfl)) (by show 1 < 2; decide) (by show 14 + 4 ≤ 100000; decide) rfl sc_law_rows.nd rfl rfl (by decide) (by decide)
theorem sc_law_kinds : FnScope ["_law_cell"] ["_law_cell"] (defScope s_law_kinds) := ⟨rfl, rfl, rfl, by decide +kernel, rfl, by decide +kernel, by decide +kernel⟩
theorem ok_law_kinds {f : Addr} {fd : FuncData} (F : Fun K "_law_kinds" "_law_kinds" s_law_kinds f fd) (T : Blt mg) : FnOk P w K mg base CX0 1 f fd ["_law_cell"] (spF K p_things (g_things kindsL)) := by
  refine fn_ok (k := 0) F sc_law_kinds (by rintro ds ⟨c, rfl⟩; rfl) fun cdv A outer s H E hr ds hp => ?_
  obtain ⟨c, rfl⟩ := hp
  exact @lstRet _ _ _ (kindsL c) _ _ _ (@jaR _ _ _ _ _ _ _ je_non (@jaR _ _ _ _ _ _ _ je_int (@jaR _ _ _ _ _ _ _ (je_neg je_int) (@jaR _ _ _ _ _ _ _ (je_sub (je_neg je_int) (je_mod (JE.sc (l' := .frs) (je_v 0 rfl) rfl) je_int (by decide))) (@jaR _ _ _ _ _ _ _ je_bl (@jaR _ _ _ _ _ _ _ je_str (@jaR _ _ _ _ _ _ _ (JOI.je (joi_lst (l := .frs) (ns := [2]) (@jaR _ _ _ _ _ _ _ je_int ja_nil rfl (star_c rfl)))) (@jaR _ _ _ _ _ _ _ (je_tup (l := .frs) (@jaR _ _ _ _ _ _ _ je_int ja_nil rfl (star_c rfl))) (@jaR _ _ _ _ _ _ _ je_dic ja_nil rfl (star_c rfl)) rfl (star_c rfl)) rfl (star_c rfl)) rfl (star_c rfl)) rfl (star_c rfl)) rfl (star_c rfl)) rfl (star_c rfl)) rfl (star_c rfl)) rfl (star_c rfl)) (by show 9 ≤ 100000; decide) rfl
theorem sc_law_counts : FnScope ["_law_cell"] ["_law_cell"] (defScope s_law_counts) := ⟨rfl, rfl, rfl, by decide +kernel, rfl, by decide +kernel, by decide +kernel⟩
theorem ok_law_counts {f : Addr} {fd : FuncData} (F : Fun K "_law_counts" "_law_counts" s_law_counts f fd) (T : Blt mg) : FnOk P w K mg base CX0 1 f fd ["_law_cell"] (spF K p_things (g_things countsL)) := by
  refine fn_ok (k := 0) F sc_law_counts (by rintro ds ⟨c, rfl⟩; rfl) fun cdv A outer s H E hr ds hp => ?_
  obtain ⟨c, rfl⟩ := hp
  exact @lstRet _ _ _ (countsL c) _ _ _ (@jaR _ _ _ _ _ _ _ je_non (@jaR _ _ _ _ _ _ _ (je_neg je_int) (@jaR _ _ _ _ _ _ _ (je_sub (je_neg je_int) (je_mod (JE.sc (l' := .frs) (je_v 0 rfl) rfl) je_int (by decide))) (@jaR _ _ _ _ _ _ _ je_int (@jaR _ _ _ _ _ _ _ (je_add je_int (je_mod (JE.sc (l' := .frs) (je_v 0 rfl) rfl) je_int (by decide))) (@jaR _ _ _ _ _ _ _ je_bl (@jaR _ _ _ _ _ _ _ je_str (@jaR _ _ _ _ _ _ _ (JOI.je (joi_lst (l := .frs) (ns := [1]) (@jaR _ _ _ _ _ _ _ je_int ja_nil rfl (star_c rfl)))) (@jaR _ _ _ _ _ _ _ (je_tup (l := .frs) (@jaR _ _ _ _ _ _ _ je_int ja_nil rfl (star_c rfl))) ja_nil rfl (star_c rfl)) rfl (star_c rfl)) rfl (star_c rfl)) rfl (star_c rfl)) rfl (star_c rfl)) rfl (star_c rfl)) rfl (star_c rfl)) rfl (star_c rfl)) rfl (star_c rfl)) (by show 9 ≤ 100000; decide) rfl
theorem v_non : vRow .non := ⟨rfl, (fun _ e => by cases e), (fun _ e => by cases e)⟩
theorem v_tup {es : List D} : vRow (.tup es) := ⟨rfl, (fun _ e => by cases e), (fun _ e => by cases e)⟩
theorem v_str {x : Str} : vRow (.str x) := ⟨rfl, (fun _ e => by cases e), (fun _ e => by cases e)⟩
theorem v_bl {b : Bool} : vRow (.bl b) := ⟨rfl, (fun _ e => by cases e), (fun _ e => by cases e)⟩
theorem v_int {i : Int} : vRow (.int i) := ⟨rfl, (fun _ e => by cases e), (fun _ e => by cases e)⟩
theorem v_dic : vRow .dic := ⟨rfl, (fun _ e => by cases e), (fun _ e => by cases e)⟩
theorem v_lst {es : List D} (h1 : es.all valD = true) (h2 : es.length ≤ 1000) : vRow (.lst es) := ⟨rfl, (fun _ e => by cases e; exact ⟨h1, h2⟩), (fun _ e => by cases e)⟩
theorem rows_ok {c : Int} {t : D} (h : t ∈ rowsL c) : vRow t ∧ isRow t = false := by
  unfold rowsL rows1 rows2 at h
  simp only [List.mem_append, List.mem_cons, List.not_mem_nil, or_false] at h
  rcases h with (rfl | rfl | rfl | rfl | rfl | rfl | rfl | rfl | rfl | rfl | rfl | rfl | rfl | rfl) | (rfl | rfl | rfl | rfl)
  · exact ⟨v_non, rfl⟩
  · exact ⟨v_tup, rfl⟩
  · exact ⟨v_tup, rfl⟩
  · exact ⟨v_str, rfl⟩
  · exact ⟨v_dic, rfl⟩
  · exact ⟨v_lst rfl (by simp), rfl⟩
  · exact ⟨v_lst rfl (by simp), rfl⟩
  · exact ⟨v_lst rfl (by simp), rfl⟩
  · exact ⟨v_lst rfl (by simp), rfl⟩
  · exact ⟨v_lst rfl (by simp), rfl⟩
  · exact ⟨v_lst rfl (by simp), rfl⟩
  · exact ⟨v_lst rfl (by simp), rfl⟩
  · exact ⟨v_int, rfl⟩
  · exact ⟨v_int, rfl⟩
  · exact ⟨v_lst rfl (by simp), rfl⟩
  · exact ⟨v_lst rfl (by simp), rfl⟩
  · exact ⟨v_lst rfl (by simp), rfl⟩
  · exact ⟨v_lst rfl (by simp), rfl⟩
theorem kinds_ok {c : Int} {t : D} (h : t ∈ kindsL c) : vRow t ∧ isKi t = false := by
  have m0 := Int.emod_nonneg c (show (9 : Int) ≠ 0 by decide)
  unfold kindsL at h
  simp only [List.mem_cons, List.not_mem_nil, or_false] at h
  rcases h with rfl | rfl | rfl | rfl | rfl | rfl | rfl | rfl | rfl
  · exact ⟨v_non, rfl⟩
  · exact ⟨v_int, rfl⟩
  · exact ⟨v_int, rfl⟩
  · exact ⟨v_int, by show decide (1 ≤ -1 - c % 9) = false; rw [decide_eq_false_iff_not]; omega⟩
  · exact ⟨v_bl, rfl⟩
  · exact ⟨v_str, rfl⟩
  · exact ⟨v_il (by decide), rfl⟩
  · exact ⟨v_tup, rfl⟩
  · exact ⟨v_dic, rfl⟩
theorem counts_ok {c : Int} {t : D} (h : t ∈ countsL c) : vRow t ∧ cntOk 2 t = false := by
  have m0 := Int.emod_nonneg c (show (9 : Int) ≠ 0 by decide)
  unfold countsL at h
  simp only [List.mem_cons, List.not_mem_nil, or_false] at h
  rcases h with rfl | rfl | rfl | rfl | rfl | rfl | rfl | rfl | rfl
  · exact ⟨v_non, rfl⟩
  · exact ⟨v_int, rfl⟩
  · exact ⟨v_int, by show (decide (0 ≤ -1 - c % 9) && _) = false; rw [Bool.and_eq_false_iff, decide_eq_false_iff_not]; left; omega⟩
  · exact ⟨v_int, rfl⟩
  · exact ⟨v_int, by show (_ && decide (3 + c % 9 ≤ ((2 : Nat) : Int))) = false; rw [Bool.and_eq_false_iff, decide_eq_false_iff_not, decide_eq_false_iff_not]; right; omega⟩
  · exact ⟨v_bl, rfl⟩
  · exact ⟨v_str, rfl⟩
  · exact ⟨v_il (by decide), rfl⟩
  · exact ⟨v_tup, rfl⟩

end
end Kc

set_option Elab.async false
set_option linter.all false
set_option maxRecDepth 100000
set_option maxHeartbeats 2000000
set_option autoImplicit false
namespace Kc
open PySem L2 Lf
section
variable {P : Program} {w : World} {K : PySem.W.Frag} {mg : Str → Option Value} {base : Heap}
variable {BR BK BM LE : Addr}
/-- the classes of what is refused, and what isinstance says of them -/
structure Exs (K : PySem.W.Frag) (mg : Str → Option Value) (BR BK BM LE : Addr) : Prop where
  r : ExcK K mg "BadRow" BR
  k : ExcK K mg "BadKinds" BK
  m : ExcK K mg "BadMany" BM
  g : mg "LeftError" = some (.ref LE)
  v : mg "ValueError" = none
  cr : ExcC K BR
  ck : ExcC K BK
  cm : ExcC K BM
  xr : PySem.W.exmOne K (.ref BR) (.ref LE) = some true
  xk : PySem.W.exmOne K (.ref BK) (.ref LE) = some true
  xm : PySem.W.exmOne K (.ref BM) (.ref LE) = some true
  rr : PySem.W.kitOne K (.ref BR) (.ref BR) = some true
  rk : PySem.W.kitOne K (.ref BR) (.ref BK) = some false
  rm : PySem.W.kitOne K (.ref BR) (.ref BM) = some false
  kr : PySem.W.kitOne K (.ref BK) (.ref BR) = some false
  kk : PySem.W.kitOne K (.ref BK) (.ref BK) = some true
  km : PySem.W.kitOne K (.ref BK) (.ref BM) = some false
  mr : PySem.W.kitOne K (.ref BM) (.ref BR) = some false
  mK : PySem.W.kitOne K (.ref BM) (.ref BK) = some false
  mm : PySem.W.kitOne K (.ref BM) (.ref BM) = some true
  rv : PySem.W.kitOne K (.ref BR) (.type "ValueError") = some true
  kv : PySem.W.kitOne K (.ref BK) (.type "ValueError") = some true
  mv : PySem.W.kitOne K (.ref BM) (.type "ValueError") = some true
theorem boot_VE : bootBuiltins "ValueError" = some (.type "ValueError") := by decide +kernel
def dueI (door : Int) (t : D) : Int := if door = 14 then 1 else if door = 15 then 2 else if isRow t = true then 2 else 0
abbrev N_due : List Str := ["_law_door", "_law_thing", "_law_due_here", "error", "_law_found", "_law_k"]
theorem sc_law_due : FnScope N_due ["_law_door", "_law_thing", "_law_due_here"] (defScope s_law_due) := ⟨rfl, rfl, rfl, by decide +kernel, rfl, by decide +kernel, by decide +kernel⟩
def p_law_due (ds : List D) : Prop := ∃ (door : Int) (t : D), ds = [.int door, t, .int (dueI door t)] ∧ AskOk door t
def g_law_due (_ : List D) : D := .bl true
/-- one class and its number -/
structure Cls1 (K : PySem.W.Frag) (BR BK BM LE : Addr) (C : Addr) (due : Int) : Prop where
  c : ExcC K C
  x : PySem.W.exmOne K (.ref C) (.ref LE) = some true
  r : PySem.W.kitOne K (.ref C) (.ref BR) = some (decide (0 = due))
  k : PySem.W.kitOne K (.ref C) (.ref BK) = some (decide (1 = due))
  m : PySem.W.kitOne K (.ref C) (.ref BM) = some (decide (2 = due))
  v : PySem.W.kitOne K (.ref C) (.type "ValueError") = some true
theorem Exs.cls (E : Exs K mg BR BK BM LE) (door : Int) (t : D) : Cls1 K BR BK BM LE (askC BR BK BM door t) (dueI door t) := by
  unfold askC dueI rowC
  split
  · exact ⟨E.ck, E.xk, E.kr, E.kk, E.km, E.kv⟩
  split
  · exact ⟨E.cm, E.xm, E.mr, E.mK, E.mm, E.mv⟩
  split
  · exact ⟨E.cm, E.xm, E.mr, E.mK, E.mm, E.mv⟩
  · exact ⟨E.cr, E.xr, E.rr, E.rk, E.rm, E.rv⟩
theorem ok_law_due {f : Addr} {fd : FuncData} (F : Fun K "_law_due" "_law_due" s_law_due f fd) (T : Blt mg) (XE : Exs K mg BR BK BM LE) (C_law_ask : CalleeE P w K mg base 5 "_law_ask" p_law_ask (r_law_ask BR BK BM)) : FnOk P w K mg base CX0 6 f fd ["_law_door", "_law_thing", "_law_due_here"] (spF K p_law_due g_law_due) := by
  refine fn_ok (k := 5) F sc_law_due (by rintro ds ⟨a, b, rfl, _⟩; rfl) fun cdv A outer s H E hr ds hp => ?_
  obtain ⟨door, t, rfl, hA⟩ := hp
  have hu : (A.deeper (PyProof.Rows.envOfC "_law_due" (defScope s_law_due) s.heap.objs.size f cdv)).units + 64 < cLine := hr.units
  have hC := XE.cls door t
  generalize hdue : dueI door t = due at hC
  refine jss_cons (js_try 3 (C := .ref (askC BR BK BM door t)) (LE := LE) rfl sc_law_due.nd rfl ⟨rfl, by decide, .inl XE.g⟩ rfl rfl (fun W pn xe tk => jx_call tk C_law_ask hr (ja_cons (je_v 0 rfl) (ja_cons (je_v 1 rfl) ja_nil)) ⟨_, _, rfl, hA⟩ rfl) hC.x (fun a oe pn hz hf => ?_))
  have hcall := call_isE (a := a) (X := (cxOf CX0 P w K mg base N_due "_law_due" (defScope s_law_due) f cdv A outer s H E).nox) (pn := pn) hC.c hz.zc hf
  have hot := hot_suite (a := a) (X := (cxOf CX0 P w K mg base N_due "_law_due" (defScope s_law_due) f cdv A outer s H E).nox) (pn := pn) hz hf
  refine jss_cons (js_set 4 (d := .lst [.bl (decide (0 = due)), .bl (decide (1 = due)), .bl (decide (2 = due))]) (JO.je (jo_lst (l := .frs) (ja_cons (je_isE hcall T.isinstance XE.r.g (je_v 3 rfl) hC.r) (ja_cons (je_isE hcall T.isinstance XE.k.g (je_v 3 rfl) hC.k) (ja_cons (je_isE hcall T.isinstance XE.m.g (je_v 3 rfl) hC.m) ja_nil))))) ?_ (by decide) sc_law_due.nd)
  refine jss_one (js_ret (JE.eq (je_and (v := true) (u := true) (JE.eq (je_c (jc_eqG hu (d1 := .lst [.bl (decide (0 = due)), .bl (decide (1 = due)), .bl (decide (2 = due))]) (d2 := .lst [.bl (decide (0 = due)), .bl (decide (1 = due)), .bl (decide (2 = due))]) (je_v 4 rfl) (JE.eq (JO.je (jo_mapRH (x := "_law_k") (n := 5) (f := fun k => .bl (decide (k = due))) hot T.range je_int ⟨by decide, by decide⟩ (fun _ _ _ _ _ _ => jgb_name 5 sc_law_due.nd) (fun k hk _ _ _ _ _ => (je_c (jc_eq (je_v 5 rfl) (by rw [← hdue]; exact je_v 2 rfl)))) sc_law_due.nd (blkOk_by (N := N_due) (sc := defScope s_law_due) (by decide +kernel)))) rfl))) (by rw [eqD_refl rfl])) (fun _ => (je_one (je_isET hcall T.isinstance XE.v boot_VE (je_v 3 rfl) hC.v)))) rfl) rfl)

end
end Kc

set_option Elab.async false
set_option linter.all false
set_option maxRecDepth 100000
set_option maxHeartbeats 2000000
set_option autoImplicit false
namespace Kc
open PySem L2 Lf
section
variable {P : Program} {w : World} {K : PySem.W.Frag} {mg : Str → Option Value} {base : Heap}
variable {BR BK BM LE : Addr}
theorem gI_mem {ns : List Int} {i : Int} (h0 : 0 ≤ i) (h : i < ns.length) : gI ns i ∈ ns := by
  unfold gI
  rw [if_pos h0, List.getD_eq_getElem?_getD, List.getElem?_eq_getElem (by omega)]
  exact List.getElem_mem _
theorem gD_mem {ds : List D} {i : Int} (h0 : 0 ≤ i) (h : i < ds.length) : gD ds i ∈ ds := by
  unfold gD
  rw [if_pos h0, List.getD_eq_getElem?_getD, List.getElem?_eq_getElem (by omega)]
  exact List.getElem_mem _
theorem all_tD (ds : List D) : (ds.map fun _ => true).all id = true := by
  induction ds with
  | nil => rfl
  | cons x r ih => simp [ih]
/-- doors, the things for them, the class's number -/
structure Tri (P : Program) (w : World) (K : PySem.W.Frag) (mg : Str → Option Value) (base : Heap) (z : List Int × Addr × Int) : Prop where
  ex : ∃ gl : Int → List D, CalleeA P w K mg base 1 z.2.1 p_things (g_things gl) ∧ (∀ c, 0 < (gl c).length ∧ (gl c).length ≤ 100) ∧ ∀ door, door ∈ z.1 → ∀ c t, t ∈ gl c → AskOk door t ∧ dueI door t = z.2.2
  n : 0 < z.1.length
  m : z.1.length ≤ 100
def p_law (ds : List D) : Prop := ∃ cs : List Int, ds = [.scr cs] ∧ cs.length ≤ 63
def g_law (_ : List D) : D := .bl true
abbrev N_law : List Str := ["_law_script", "_law_doors", "_law_things", "_law_due_here", "_law_door", "_law_cell", "_law_thing", "_law_some"]
theorem sc_law : FnScope N_law ["_law_script"] (defScope s_law) := ⟨rfl, rfl, rfl, by decide +kernel, rfl, by decide +kernel, by decide +kernel⟩
theorem jiLst {X : Cx} {tg : Expr} {es : List Expr} {ρ : PEnv} {ds : List D} {pos : Pos} (h : JA X .frs es ρ ds) (hz : ds.length ≤ 100000) : JI X tg (.List es pos) .frs ρ ds := ji_lst (JO.je (jo_lst h (hz := hz)))
theorem forLst {X : Cx} {tg : Expr} {es : List Expr} {body sts : List Stmt} {ρ : PEnv} {ds : List D} {p1 p2 : Pos} {P : PEnds} (inv : List D → PEnv → Prop) (h : JA X .frs es ρ ds) (hz : ds.length ≤ 100000) (h0 : inv ds ρ)
    (hs : ∀ d rest ρ', inv (d :: rest) ρ' → ∃ ρ2, JG X tg .frs d ρ' ρ2 ∧ JSs X body { nx := inv rest, rt := P.rt, bk := fun ρ' => JSs X sts P ρ', ct := inv rest } ρ2) (hd : ∀ ρ', inv [] ρ' → JSs X sts P ρ') (hp : PassesOwn (model X.prog X.w) X.A X.env X.xe) (hc : X.calm = true) : JSs X (.For tg (.List es p1) body [] p2 :: sts) P ρ :=
  jss_cons (js_for inv (jiLst h hz) h0 hs hd hp hc (fs_ns rfl))
theorem spec_ok {door : Int} {ns : List Int} (h : (door = 11 ∧ ns.length ≠ 4) ∨ door = 12 ∨ door = 13) (hz : ns.length ≤ 1000) : AskOk door (.il ns) ∧ dueI door (.il ns) = 2 := by
  have e : dueI door (.il ns) = 2 := by
    unfold dueI
    rw [if_neg (by omega), if_neg (by omega)]
    exact if_pos (show isRow (.il ns) = true from rfl)
  exact ⟨⟨by omega, by omega, v_il hz, fun _ => .inr ⟨by omega, ns, rfl, fun q => by omega⟩, fun q => by omega, fun q => by omega⟩, e⟩
theorem ok_law {f : Addr} {fd : FuncData} (F : Fun K "law" "law" s_law f fd) (T : Blt mg) (C_law_rows : Callee P w K mg base 1 "_law_rows" p_things (g_things rowsL)) (C_law_kinds : Callee P w K mg base 1 "_law_kinds" p_things (g_things kindsL)) (C_law_counts : Callee P w K mg base 1 "_law_counts" p_things (g_things countsL))
    (C_law_due : Callee P w K mg base 6 "_law_due" p_law_due g_law_due) : FnOk P w K mg base CX0 7 f fd ["_law_script"] (spF K p_law g_law) := by
  refine fn_ok (k := 6) F sc_law (by rintro ds ⟨i, rfl, _⟩; rfl) fun cdv A outer s H E hr ds hp => ?_
  obtain ⟨cs, rfl, hz⟩ := hp
  obtain ⟨fr, fdr, psr, Fr, mr, kr, br⟩ := C_law_rows.ex
  obtain ⟨fk, fdk, psk, Fk, mk, kk, bk⟩ := C_law_kinds.ex
  obtain ⟨fc, fdc, psc, Fc, mc, kc, bc⟩ := C_law_counts.ex
  have t0 : Tri P w K mg base (rngI 0 (14 : Int).toNat, fr, 0) := by
    refine ⟨⟨rowsL, ⟨⟨_, _, Fr, kr, br⟩⟩, fun c => ⟨by show 0 < 14 + 4; decide, by show 14 + 4 ≤ 100; decide⟩, fun door hd c t ht => ?_⟩, by show 0 < 14; decide, by show 14 ≤ 100; decide⟩
    obtain ⟨h1, h2⟩ := rows_ok ht
    have hd : door ∈ rngI 0 (14 : Int).toNat := hd
    unfold rngI at hd
    obtain ⟨i, hi, rfl⟩ := List.mem_map.mp hd
    rw [List.mem_range] at hi
    have hi : i < 14 := hi
    refine ⟨⟨by omega, by omega, h1, fun _ => .inl h2, fun q => by omega, fun q => by omega⟩, ?_⟩
    unfold dueI
    rw [if_neg (by omega), if_neg (by omega), if_neg (by rw [h2]; exact Bool.false_ne_true)]
  have t1 : Tri P w K mg base ([14], fk, 1) := by
    refine ⟨⟨kindsL, ⟨⟨_, _, Fk, kk, bk⟩⟩, fun c => ⟨by show 0 < 9; decide, by show 9 ≤ 100; decide⟩, fun door hd c t ht => ?_⟩, by show 0 < 1; decide, by show 1 ≤ 100; decide⟩
    obtain ⟨h1, h2⟩ := kinds_ok ht
    have hd : door = 14 := List.mem_singleton.mp hd
    subst hd
    exact ⟨⟨by decide, by decide, h1, fun q => absurd q (by decide), fun _ => h2, fun q => absurd q (by decide)⟩, rfl⟩
  have t2 : Tri P w K mg base ([15], fc, 2) := by
    refine ⟨⟨countsL, ⟨⟨_, _, Fc, kc, bc⟩⟩, fun c => ⟨by show 0 < 9; decide, by show 9 ≤ 100; decide⟩, fun door hd c t ht => ?_⟩, by show 0 < 1; decide, by show 1 ≤ 100; decide⟩
    obtain ⟨h1, h2⟩ := counts_ok ht
    have hd : door = 15 := List.mem_singleton.mp hd
    subst hd
    exact ⟨⟨by decide, by decide, h1, fun q => absurd q (by decide), fun q => absurd q (by decide), fun _ => h2⟩, rfl⟩
  refine @forLst _ _ _ _ _ _ [.tup [.il (rngI 0 (14 : Int).toNat), .ptr fr, .int 0], .tup [.il [14], .ptr fk, .int 1], .tup [.il [15], .ptr fc, .int 2]] _ _ _ (fun rest ρ => ∃ (r : List (List Int × Addr × Int)) (x1 x2 x3 x4 x5 x7 : Option Lf.E), (∀ z, z ∈ r → Tri P w K mg base z) ∧ rest = r.map (fun z => D.tup [.il z.1, .ptr z.2.1, .int z.2.2]) ∧ ρ = [some (.v .imm (.scr cs)), x1, x2, x3, x4, x5, none, x7])
    (@jaR _ _ _ _ _ _ _ (je_tup (l := .frs) (@jaR _ _ _ _ _ _ _ (JOI.je (joi_listRg T.list T.range je_int ⟨by decide, by decide⟩)) (@jaR _ _ _ _ _ _ _ (je_fun mr) (@jaR _ _ _ _ _ _ _ je_int ja_nil rfl (star_c rfl)) rfl (star_c rfl)) rfl (star_c rfl)))
      (@jaR _ _ _ _ _ _ _ (je_tup (l := .frs) (@jaR _ _ _ _ _ _ _ (JOI.je (joi_lst (l := .frs) (ns := [14]) (ja_cons je_int ja_nil))) (@jaR _ _ _ _ _ _ _ (je_fun mk) (@jaR _ _ _ _ _ _ _ je_int ja_nil rfl (star_c rfl)) rfl (star_c rfl)) rfl (star_c rfl)))
      (@jaR _ _ _ _ _ _ _ (je_tup (l := .frs) (@jaR _ _ _ _ _ _ _ (JOI.je (joi_lst (l := .frs) (ns := [15]) (ja_cons je_int ja_nil))) (@jaR _ _ _ _ _ _ _ (je_fun mc) (@jaR _ _ _ _ _ _ _ je_int ja_nil rfl (star_c rfl)) rfl (star_c rfl)) rfl (star_c rfl))) ja_nil rfl (star_c rfl)) rfl (star_c rfl)) rfl (star_c rfl)) (by show 3 ≤ 100000; decide)
    ⟨[(rngI 0 (14 : Int).toNat, fr, 0), ([14], fk, 1), ([15], fc, 2)], none, none, none, none, none, none, fun z hz' => by
      simp only [List.mem_cons, List.not_mem_nil, or_false] at hz'
      rcases hz' with rfl | rfl | rfl
      · exact t0
      · exact t1
      · exact t2, rfl, rfl⟩ (fun d rest ρ' hv => ?_) (fun ρ' hv => ?_) PassesOwn.never rfl
  · obtain ⟨r, x1, x2, x3, x4, x5, x7, hr', hrest, rfl⟩ := hv
    cases r with
    | nil => cases hrest
    | cons z r =>
      obtain ⟨rfl, rfl⟩ := List.cons.inj hrest
      obtain ⟨dl, fa, due⟩ := z
      obtain ⟨⟨gl, CA, hgl, hask⟩, hn, hm⟩ := hr' (dl, fa, due) (List.mem_cons_self ..)
      have hn : 0 < dl.length := hn
      have hm : dl.length ≤ 100 := hm
      refine ⟨_, jg_trip 1 2 3 sc_law.nd, ?_⟩
      refine jss_cons (js_forI (fun rest ρ => ∃ (x4 : Option Lf.E), (∀ k, k ∈ rest → k ∈ dl) ∧ ρ = [some (.v .imm (.scr cs)), some (.v .frs (.il dl)), some (.v .frs (.ptr fa)), some (.v .frs (.int due)), x4, x5, none, x7]) (ji_list (je_v 1 rfl)) ⟨_, fun k hk => hk, rfl⟩ (fun door rest ρ' hv => ?_) (fun ρ' hv => ?_))
      · obtain ⟨x4, hdl, rfl⟩ := hv
        have hdoor := hdl door (List.mem_cons_self ..)
        refine ⟨_, jg_name 4 sc_law.nd, ?_⟩
        refine jss_one (js_if (jt_not (jt_v (v := true) (JE.eq (je_all T.all (JO.je (jo_mapDB (ds := gl (cs.length : Int)) (x := "_law_thing") (n := 6) (f := fun _ => true) (ji_lst (je_callV (je_v 2 rfl) CA hr (ja_cons (je_lenS T.len (je_v 0 rfl)) ja_nil) ⟨_, rfl⟩)) (fun _ _ _ _ _ _ _ => jgb_name 6 sc_law.nd) (fun t ht _ _ _ _ _ => by
          obtain ⟨q1, q2⟩ := hask door hdoor _ t ht
          exact je_call C_law_due hr (ja_cons (je_v 4 rfl) (ja_cons (je_v 6 rfl) (ja_cons (je_v 3 rfl) ja_nil))) ⟨door, t, by rw [q2], q1⟩) sc_law.nd (blkOk_by (N := N_law) (sc := defScope s_law) (by decide +kernel)) (by have := hgl (cs.length : Int); omega)))) (by rw [all_tD])))) (fun c => ?_) (fun c => ?_))
        · cases c
        exact jss_nil ⟨_, fun k hk => hdl k (List.mem_cons_of_mem _ hk), rfl⟩
      obtain ⟨x4, _, rfl⟩ := hv
      refine jss_one (js_forI (fun rest ρ => ∃ (x5 x7 : Option Lf.E), ρ = [some (.v .imm (.scr cs)), some (.v .frs (.il dl)), some (.v .frs (.ptr fa)), some (.v .frs (.int due)), x4, x5, none, x7]) (ji_listS (je_v 0 rfl)) ⟨_, _, rfl⟩ (fun cell rest ρ' hv => ?_) (fun ρ' hv => ?_))
      · obtain ⟨x5, x7, rfl⟩ := hv
        refine ⟨_, jg_name 5 sc_law.nd, ?_⟩
        refine jss_cons (js_set 7 (d := .lst (gl (cell % 10 ^ (60 : Int).toNat))) (je_callV (je_v 2 rfl) CA hr (ja_cons (je_mod (je_v 5 rfl) (je_pow je_int je_int ⟨by decide, by decide, by decide⟩) (by decide)) ja_nil) ⟨_, rfl⟩) ?_ (by decide) sc_law.nd)
        generalize cell % 10 ^ (60 : Int).toNat = cc
        obtain ⟨g1, g2⟩ := hgl cc
        have a0 := Int.emod_nonneg cell (show (dl.length : Int) ≠ 0 by omega)
        have a1 := Int.emod_lt_of_pos cell (show (0 : Int) < (dl.length : Int) by omega)
        have b0 := Int.emod_nonneg (cell / (dl.length : Int)) (show ((gl cc).length : Int) ≠ 0 by omega)
        have b1 := Int.emod_lt_of_pos (cell / (dl.length : Int)) (show (0 : Int) < ((gl cc).length : Int) by omega)
        obtain ⟨q1, q2⟩ := hask (gI dl (cell % (dl.length : Int))) (gI_mem a0 a1) cc (gD (gl cc) (cell / (dl.length : Int) % ((gl cc).length : Int))) (gD_mem b0 b1)
        refine jss_one (js_if (jt_not (jt_v (v := true) (je_call C_law_due hr (ja_cons (je_ixI (je_v 1 rfl) (je_mod (je_v 5 rfl) (je_len T.len (je_v 1 rfl)) (by omega)) ⟨by omega, a1⟩) (ja_cons (je_ixD (d := gD (gl cc) (cell / (dl.length : Int) % ((gl cc).length : Int))) (je_v 7 rfl) (je_mod (je_div (je_v 5 rfl) (je_len T.len (je_v 1 rfl)) ⟨by omega, by omega⟩) (je_lenD T.len (je_v 7 rfl)) (by omega)) ⟨by omega, b1⟩ rfl) (ja_cons (je_v 3 rfl) ja_nil))) ⟨_, _, by rw [q2], q1⟩))) (fun c => ?_) (fun c => ?_))
        · cases c
        exact jss_nil ⟨_, _, rfl⟩
      obtain ⟨x5', x7', rfl⟩ := hv
      exact ⟨r, _, _, _, _, _, _, fun z' h' => hr' z' (List.mem_cons_of_mem _ h'), rfl, rfl⟩
  obtain ⟨r, x1, x2, x3, x4, x5, x7, _, _, rfl⟩ := hv
  refine @forLst _ _ _ _ _ _ [.tup [.int 11, .il [1]], .tup [.int 11, .il [1, 2, 3, 4, 5]], .tup [.int 12, .il []], .tup [.int 12, .il [1]], .tup [.int 13, .il [1, 2, 3]]] _ _ _ (fun rest ρ => ∃ (r : List (Int × List Int)) (x4 x6 : Option Lf.E), (∀ z, z ∈ r → AskOk z.1 (.il z.2) ∧ dueI z.1 (.il z.2) = 2) ∧ rest = r.map (fun z => D.tup [.int z.1, .il z.2]) ∧ ρ = [some (.v .imm (.scr cs)), x1, x2, x3, x4, x5, x6, x7])
    (@jaR _ _ _ _ _ _ _ (je_tup (l := .frs) (@jaR _ _ _ _ _ _ _ je_int (@jaR _ _ _ _ _ _ _ (JOI.je (joi_lst (l := .frs) (ns := [1]) (@jaR _ _ _ _ _ _ _ je_int ja_nil rfl (star_c rfl)))) ja_nil rfl (star_c rfl)) rfl (star_c rfl))) (@jaR _ _ _ _ _ _ _ (je_tup (l := .frs) (@jaR _ _ _ _ _ _ _ je_int (@jaR _ _ _ _ _ _ _ (JOI.je (joi_lst (l := .frs) (ns := [1, 2, 3, 4, 5]) (@jaR _ _ _ _ _ _ _ je_int (@jaR _ _ _ _ _ _ _ je_int (@jaR _ _ _ _ _ _ _ je_int (@jaR _ _ _ _ _ _ _ je_int (@jaR _ _ _ _ _ _ _ je_int ja_nil rfl (star_c rfl)) rfl (star_c rfl)) rfl (star_c rfl)) rfl (star_c rfl)) rfl (star_c rfl)))) ja_nil rfl (star_c rfl)) rfl (star_c rfl))) (@jaR _ _ _ _ _ _ _ (je_tup (l := .frs) (@jaR _ _ _ _ _ _ _ je_int (@jaR _ _ _ _ _ _ _ (JOI.je joi_nil) ja_nil rfl (star_c rfl)) rfl (star_c rfl))) (@jaR _ _ _ _ _ _ _ (je_tup (l := .frs) (@jaR _ _ _ _ _ _ _ je_int (@jaR _ _ _ _ _ _ _ (JOI.je (joi_lst (l := .frs) (ns := [1]) (@jaR _ _ _ _ _ _ _ je_int ja_nil rfl (star_c rfl)))) ja_nil rfl (star_c rfl)) rfl (star_c rfl))) (@jaR _ _ _ _ _ _ _ (je_tup (l := .frs) (@jaR _ _ _ _ _ _ _ je_int (@jaR _ _ _ _ _ _ _ (JOI.je (joi_lst (l := .frs) (ns := [1, 2, 3]) (@jaR _ _ _ _ _ _ _ je_int (@jaR _ _ _ _ _ _ _ je_int (@jaR _ _ _ _ _ _ _ je_int ja_nil rfl (star_c rfl)) rfl (star_c rfl)) rfl (star_c rfl)))) ja_nil rfl (star_c rfl)) rfl (star_c rfl))) ja_nil rfl (star_c rfl)) rfl (star_c rfl)) rfl (star_c rfl)) rfl (star_c rfl)) rfl (star_c rfl)) (by show 5 ≤ 100000; decide)
    ⟨[(11, [1]), (11, [1, 2, 3, 4, 5]), (12, []), (12, [1]), (13, [1, 2, 3])], _, _, fun z hz' => by
      simp only [List.mem_cons, List.not_mem_nil, or_false] at hz'
      rcases hz' with rfl | rfl | rfl | rfl | rfl
      · exact spec_ok (.inl ⟨rfl, by decide⟩) (by decide)
      · exact spec_ok (.inl ⟨rfl, by decide⟩) (by decide)
      · exact spec_ok (.inr (.inl rfl)) (by decide)
      · exact spec_ok (.inr (.inl rfl)) (by decide)
      · exact spec_ok (.inr (.inr rfl)) (by decide), rfl, rfl⟩ (fun d rest ρ' hv => ?_) (fun ρ' hv => ?_) PassesOwn.never rfl
  · obtain ⟨r, x4, x6, hr', hrest, rfl⟩ := hv
    cases r with
    | nil => cases hrest
    | cons z r =>
      obtain ⟨rfl, rfl⟩ := List.cons.inj hrest
      obtain ⟨q1, q2⟩ := hr' z (List.mem_cons_self ..)
      refine ⟨_, jg_pair 4 6 sc_law.nd, ?_⟩
      refine jss_one (js_if (jt_not (jt_v (v := true) (je_call C_law_due hr (ja_cons (je_v 4 rfl) (ja_cons (je_v 6 rfl) (ja_cons je_int ja_nil))) ⟨z.1, .il z.2, by rw [q2], q1⟩))) (fun c => ?_) (fun c => ?_))
      · cases c
      exact jss_nil ⟨r, _, _, fun z' h' => hr' z' (List.mem_cons_of_mem _ h'), rfl, rfl⟩
  obtain ⟨r, x4', x6', _, _, rfl⟩ := hv
  exact jss_one (js_ret je_bl rfl)

end
end Kc

set_option Elab.async false
set_option linter.all false
set_option maxRecDepth 100000
set_option maxHeartbeats 2000000
set_option autoImplicit false
namespace Kc
open PySem L2 Lf
theorem all_mk {l : PySem.W.OpenLaw} {w : World} {K : PySem.W.Frag} {h : Heap} {mg : Str → Option Value} {fa CLeftError CBadRow CBadKinds CBadMany f_is_number f_check_row f_check_kinds f_left f_longest f_shortest f_ways f_kin f_missing f_least f_mixed f_law_mix f_law_ask f_law_due f_law_rows f_law_kinds f_law_counts f_law : Addr} (X : K.In h) (G : h.Ns mainGlobals mg) (hfa : mg "law" = some (.ref fa))
    {od_is_number an_is_number od_check_row an_check_row od_check_kinds an_check_kinds od_left an_left od_longest an_longest od_shortest an_shortest od_ways an_ways od_kin an_kin od_missing an_missing od_least an_least od_mixed an_mixed od_law_mix an_law_mix od_law_ask an_law_ask od_law_due an_law_due od_law_rows an_law_rows od_law_kinds an_law_kinds od_law_counts an_law_counts od_law an_law : Option Addr} {sl_is_number sl_check_row sl_check_kinds sl_left sl_longest sl_shortest sl_ways sl_kin sl_missing sl_least sl_mixed sl_law_mix sl_law_ask sl_law_due sl_law_rows sl_law_kinds sl_law_counts sl_law : Array (Option Value)} {oc_is_number kV_is_number dc_is_number pm_is_number cd_is_number ct_is_number oc_check_row kV_check_row dc_check_row pm_check_row cd_check_row ct_check_row oc_check_kinds kV_check_kinds dc_check_kinds pm_check_kinds cd_check_kinds ct_check_kinds oc_left kV_left dc_left pm_left cd_left ct_left oc_longest kV_longest dc_longest pm_longest cd_longest ct_longest oc_shortest kV_shortest dc_shortest pm_shortest cd_shortest ct_shortest oc_ways kV_ways dc_ways pm_ways cd_ways ct_ways oc_kin kV_kin dc_kin pm_kin cd_kin ct_kin oc_missing kV_missing dc_missing pm_missing cd_missing ct_missing oc_least kV_least dc_least pm_least cd_least ct_least oc_mixed kV_mixed dc_mixed pm_mixed cd_mixed ct_mixed oc_law_mix kV_law_mix dc_law_mix pm_law_mix cd_law_mix ct_law_mix oc_law_ask kV_law_ask dc_law_ask pm_law_ask cd_law_ask ct_law_ask oc_law_due kV_law_due dc_law_due pm_law_due cd_law_due ct_law_due oc_law_rows kV_law_rows dc_law_rows pm_law_rows cd_law_rows ct_law_rows oc_law_kinds kV_law_kinds dc_law_kinds pm_law_kinds cd_law_kinds ct_law_kinds oc_law_counts kV_law_counts dc_law_counts pm_law_counts cd_law_counts ct_law_counts oc_law kV_law dc_law pm_law cd_law ct_law : Value}
    (n_isinstance : PySem.W.nsIn K mainGlobals "isinstance" = some none)
    (n_int : PySem.W.nsIn K mainGlobals "int" = some none)
    (n_bool : PySem.W.nsIn K mainGlobals "bool" = some none)
    (n_list : PySem.W.nsIn K mainGlobals "list" = some none)
    (n_tuple : PySem.W.nsIn K mainGlobals "tuple" = some none)
    (n_len : PySem.W.nsIn K mainGlobals "len" = some none)
    (n_range : PySem.W.nsIn K mainGlobals "range" = some none)
    (n_reversed : PySem.W.nsIn K mainGlobals "reversed" = some none)
    (n_enumerate : PySem.W.nsIn K mainGlobals "enumerate" = some none)
    (n_zip : PySem.W.nsIn K mainGlobals "zip" = some none)
    (n_sum : PySem.W.nsIn K mainGlobals "sum" = some none)
    (n_min : PySem.W.nsIn K mainGlobals "min" = some none)
    (n_max : PySem.W.nsIn K mainGlobals "max" = some none)
    (n_all : PySem.W.nsIn K mainGlobals "all" = some none)
    (n_any : PySem.W.nsIn K mainGlobals "any" = some none)
    (n_set : PySem.W.nsIn K mainGlobals "set" = some none)
    (n_sorted : PySem.W.nsIn K mainGlobals "sorted" = some none)
    (g_get : PySem.W.specialIn K (.builtin "object.__class__") "__get__" = some (some (.builtin "getset_descriptor.__get__")))
    (g_tk : PySem.W.takesIn K (.builtin "object.__class__") = some true)
    (n_ValueError : PySem.W.nsIn K mainGlobals "ValueError" = some none)
    (a_LeftError : PySem.W.nsIn K mainGlobals "LeftError" = some (some (.ref CLeftError)))
    (a_BadRow : PySem.W.nsIn K mainGlobals "BadRow" = some (some (.ref CBadRow)))
    (a_BadKinds : PySem.W.nsIn K mainGlobals "BadKinds" = some (some (.ref CBadKinds)))
    (a_BadMany : PySem.W.nsIn K mainGlobals "BadMany" = some (some (.ref CBadMany)))
    (b_LeftError : PySem.W.subIn K (.ref CLeftError) (.type "BaseException") = some true)
    (t_LeftError : PySem.W.typeIn K (.ref CLeftError) = some (.type "type"))
    (hd_LeftError : PySem.W.hasDictIn K CLeftError = true)
    (b_BadRow : PySem.W.subIn K (.ref CBadRow) (.type "BaseException") = some true)
    (t_BadRow : PySem.W.typeIn K (.ref CBadRow) = some (.type "type"))
    (hd_BadRow : PySem.W.hasDictIn K CBadRow = true)
    (x_BadRow : PySem.W.excIn K CBadRow [.type "ValueError", .type "Exception", .type "BaseException", .type "object"] "ValueError.__new__" = true)
    (kp_BadRow : PySem.W.keepIn K (.ref CBadRow) = true)
    (s_BadRow : PySem.W.subIn K (.ref CBadRow) (.ref CLeftError) = some true)
    (ga_BadRow : PySem.W.findIn K (.ref CBadRow) "__getattribute__" = some (some (.builtin "BaseException.__getattribute__")))
    (gt_BadRow : PySem.W.findIn K (.ref CBadRow) "__getattr__" = some none)
    (cc_BadRow : PySem.W.findIn K (.ref CBadRow) "__class__" = some (some (.builtin "object.__class__")))
    (mo_BadRow : PySem.W.mroIn K CBadRow (.type "object") = some true)
    (i_BadRow_BadRow : PySem.W.kitOne K (.ref CBadRow) (.ref CBadRow) = some true)
    (i_BadRow_BadKinds : PySem.W.kitOne K (.ref CBadRow) (.ref CBadKinds) = some false)
    (i_BadRow_BadMany : PySem.W.kitOne K (.ref CBadRow) (.ref CBadMany) = some false)
    (v_BadRow : PySem.W.kitOne K (.ref CBadRow) (.type "ValueError") = some true)
    (b_BadKinds : PySem.W.subIn K (.ref CBadKinds) (.type "BaseException") = some true)
    (t_BadKinds : PySem.W.typeIn K (.ref CBadKinds) = some (.type "type"))
    (hd_BadKinds : PySem.W.hasDictIn K CBadKinds = true)
    (x_BadKinds : PySem.W.excIn K CBadKinds [.type "ValueError", .type "Exception", .type "BaseException", .type "object"] "ValueError.__new__" = true)
    (kp_BadKinds : PySem.W.keepIn K (.ref CBadKinds) = true)
    (s_BadKinds : PySem.W.subIn K (.ref CBadKinds) (.ref CLeftError) = some true)
    (ga_BadKinds : PySem.W.findIn K (.ref CBadKinds) "__getattribute__" = some (some (.builtin "BaseException.__getattribute__")))
    (gt_BadKinds : PySem.W.findIn K (.ref CBadKinds) "__getattr__" = some none)
    (cc_BadKinds : PySem.W.findIn K (.ref CBadKinds) "__class__" = some (some (.builtin "object.__class__")))
    (mo_BadKinds : PySem.W.mroIn K CBadKinds (.type "object") = some true)
    (i_BadKinds_BadRow : PySem.W.kitOne K (.ref CBadKinds) (.ref CBadRow) = some false)
    (i_BadKinds_BadKinds : PySem.W.kitOne K (.ref CBadKinds) (.ref CBadKinds) = some true)
    (i_BadKinds_BadMany : PySem.W.kitOne K (.ref CBadKinds) (.ref CBadMany) = some false)
    (v_BadKinds : PySem.W.kitOne K (.ref CBadKinds) (.type "ValueError") = some true)
    (b_BadMany : PySem.W.subIn K (.ref CBadMany) (.type "BaseException") = some true)
    (t_BadMany : PySem.W.typeIn K (.ref CBadMany) = some (.type "type"))
    (hd_BadMany : PySem.W.hasDictIn K CBadMany = true)
    (x_BadMany : PySem.W.excIn K CBadMany [.type "ValueError", .type "Exception", .type "BaseException", .type "object"] "ValueError.__new__" = true)
    (kp_BadMany : PySem.W.keepIn K (.ref CBadMany) = true)
    (s_BadMany : PySem.W.subIn K (.ref CBadMany) (.ref CLeftError) = some true)
    (ga_BadMany : PySem.W.findIn K (.ref CBadMany) "__getattribute__" = some (some (.builtin "BaseException.__getattribute__")))
    (gt_BadMany : PySem.W.findIn K (.ref CBadMany) "__getattr__" = some none)
    (cc_BadMany : PySem.W.findIn K (.ref CBadMany) "__class__" = some (some (.builtin "object.__class__")))
    (mo_BadMany : PySem.W.mroIn K CBadMany (.type "object") = some true)
    (i_BadMany_BadRow : PySem.W.kitOne K (.ref CBadMany) (.ref CBadRow) = some false)
    (i_BadMany_BadKinds : PySem.W.kitOne K (.ref CBadMany) (.ref CBadKinds) = some false)
    (i_BadMany_BadMany : PySem.W.kitOne K (.ref CBadMany) (.ref CBadMany) = some true)
    (v_BadMany : PySem.W.kitOne K (.ref CBadMany) (.type "ValueError") = some true)
    (a_is_number : PySem.W.nsIn K mainGlobals "is_number" = some (some (.ref f_is_number)))
    (l_is_number : K.lookup f_is_number = some ⟨oc_is_number, od_is_number, .func (PySem.W.fnOf "is_number" "is_number" (defArgs s_is_number) (defBody s_is_number) (defScope s_is_number) .none kV_is_number dc_is_number pm_is_number an_is_number cd_is_number ct_is_number), sl_is_number⟩)
    (c_is_number : PySem.W.codeIn K cd_is_number "is_number" = true)
    (k_is_number : PySem.W.keepIn K (.ref f_is_number) = true)
    (a_check_row : PySem.W.nsIn K mainGlobals "check_row" = some (some (.ref f_check_row)))
    (l_check_row : K.lookup f_check_row = some ⟨oc_check_row, od_check_row, .func (PySem.W.fnOf "check_row" "check_row" (defArgs s_check_row) (defBody s_check_row) (defScope s_check_row) .none kV_check_row dc_check_row pm_check_row an_check_row cd_check_row ct_check_row), sl_check_row⟩)
    (c_check_row : PySem.W.codeIn K cd_check_row "check_row" = true)
    (k_check_row : PySem.W.keepIn K (.ref f_check_row) = true)
    (a_check_kinds : PySem.W.nsIn K mainGlobals "check_kinds" = some (some (.ref f_check_kinds)))
    (l_check_kinds : K.lookup f_check_kinds = some ⟨oc_check_kinds, od_check_kinds, .func (PySem.W.fnOf "check_kinds" "check_kinds" (defArgs s_check_kinds) (defBody s_check_kinds) (defScope s_check_kinds) .none kV_check_kinds dc_check_kinds pm_check_kinds an_check_kinds cd_check_kinds ct_check_kinds), sl_check_kinds⟩)
    (c_check_kinds : PySem.W.codeIn K cd_check_kinds "check_kinds" = true)
    (k_check_kinds : PySem.W.keepIn K (.ref f_check_kinds) = true)
    (a_left : PySem.W.nsIn K mainGlobals "left" = some (some (.ref f_left)))
    (l_left : K.lookup f_left = some ⟨oc_left, od_left, .func (PySem.W.fnOf "left" "left" (defArgs s_left) (defBody s_left) (defScope s_left) .none kV_left dc_left pm_left an_left cd_left ct_left), sl_left⟩)
    (c_left : PySem.W.codeIn K cd_left "left" = true)
    (k_left : PySem.W.keepIn K (.ref f_left) = true)
    (a_longest : PySem.W.nsIn K mainGlobals "longest" = some (some (.ref f_longest)))
    (l_longest : K.lookup f_longest = some ⟨oc_longest, od_longest, .func (PySem.W.fnOf "longest" "longest" (defArgs s_longest) (defBody s_longest) (defScope s_longest) .none kV_longest dc_longest pm_longest an_longest cd_longest ct_longest), sl_longest⟩)
    (c_longest : PySem.W.codeIn K cd_longest "longest" = true)
    (k_longest : PySem.W.keepIn K (.ref f_longest) = true)
    (a_shortest : PySem.W.nsIn K mainGlobals "shortest" = some (some (.ref f_shortest)))
    (l_shortest : K.lookup f_shortest = some ⟨oc_shortest, od_shortest, .func (PySem.W.fnOf "shortest" "shortest" (defArgs s_shortest) (defBody s_shortest) (defScope s_shortest) .none kV_shortest dc_shortest pm_shortest an_shortest cd_shortest ct_shortest), sl_shortest⟩)
    (c_shortest : PySem.W.codeIn K cd_shortest "shortest" = true)
    (k_shortest : PySem.W.keepIn K (.ref f_shortest) = true)
    (a_ways : PySem.W.nsIn K mainGlobals "ways" = some (some (.ref f_ways)))
    (l_ways : K.lookup f_ways = some ⟨oc_ways, od_ways, .func (PySem.W.fnOf "ways" "ways" (defArgs s_ways) (defBody s_ways) (defScope s_ways) .none kV_ways dc_ways pm_ways an_ways cd_ways ct_ways), sl_ways⟩)
    (c_ways : PySem.W.codeIn K cd_ways "ways" = true)
    (k_ways : PySem.W.keepIn K (.ref f_ways) = true)
    (a_kin : PySem.W.nsIn K mainGlobals "kin" = some (some (.ref f_kin)))
    (l_kin : K.lookup f_kin = some ⟨oc_kin, od_kin, .func (PySem.W.fnOf "kin" "kin" (defArgs s_kin) (defBody s_kin) (defScope s_kin) .none kV_kin dc_kin pm_kin an_kin cd_kin ct_kin), sl_kin⟩)
    (c_kin : PySem.W.codeIn K cd_kin "kin" = true)
    (k_kin : PySem.W.keepIn K (.ref f_kin) = true)
    (a_missing : PySem.W.nsIn K mainGlobals "missing" = some (some (.ref f_missing)))
    (l_missing : K.lookup f_missing = some ⟨oc_missing, od_missing, .func (PySem.W.fnOf "missing" "missing" (defArgs s_missing) (defBody s_missing) (defScope s_missing) .none kV_missing dc_missing pm_missing an_missing cd_missing ct_missing), sl_missing⟩)
    (c_missing : PySem.W.codeIn K cd_missing "missing" = true)
    (k_missing : PySem.W.keepIn K (.ref f_missing) = true)
    (a_least : PySem.W.nsIn K mainGlobals "least" = some (some (.ref f_least)))
    (l_least : K.lookup f_least = some ⟨oc_least, od_least, .func (PySem.W.fnOf "least" "least" (defArgs s_least) (defBody s_least) (defScope s_least) .none kV_least dc_least pm_least an_least cd_least ct_least), sl_least⟩)
    (c_least : PySem.W.codeIn K cd_least "least" = true)
    (k_least : PySem.W.keepIn K (.ref f_least) = true)
    (a_mixed : PySem.W.nsIn K mainGlobals "mixed" = some (some (.ref f_mixed)))
    (l_mixed : K.lookup f_mixed = some ⟨oc_mixed, od_mixed, .func (PySem.W.fnOf "mixed" "mixed" (defArgs s_mixed) (defBody s_mixed) (defScope s_mixed) .none kV_mixed dc_mixed pm_mixed an_mixed cd_mixed ct_mixed), sl_mixed⟩)
    (c_mixed : PySem.W.codeIn K cd_mixed "mixed" = true)
    (k_mixed : PySem.W.keepIn K (.ref f_mixed) = true)
    (a_law_mix : PySem.W.nsIn K mainGlobals "_law_mix" = some (some (.ref f_law_mix)))
    (l_law_mix : K.lookup f_law_mix = some ⟨oc_law_mix, od_law_mix, .func (PySem.W.fnOf "_law_mix" "_law_mix" (defArgs s_law_mix) (defBody s_law_mix) (defScope s_law_mix) .none kV_law_mix dc_law_mix pm_law_mix an_law_mix cd_law_mix ct_law_mix), sl_law_mix⟩)
    (c_law_mix : PySem.W.codeIn K cd_law_mix "_law_mix" = true)
    (k_law_mix : PySem.W.keepIn K (.ref f_law_mix) = true)
    (a_law_ask : PySem.W.nsIn K mainGlobals "_law_ask" = some (some (.ref f_law_ask)))
    (l_law_ask : K.lookup f_law_ask = some ⟨oc_law_ask, od_law_ask, .func (PySem.W.fnOf "_law_ask" "_law_ask" (defArgs s_law_ask) (defBody s_law_ask) (defScope s_law_ask) .none kV_law_ask dc_law_ask pm_law_ask an_law_ask cd_law_ask ct_law_ask), sl_law_ask⟩)
    (c_law_ask : PySem.W.codeIn K cd_law_ask "_law_ask" = true)
    (k_law_ask : PySem.W.keepIn K (.ref f_law_ask) = true)
    (a_law_due : PySem.W.nsIn K mainGlobals "_law_due" = some (some (.ref f_law_due)))
    (l_law_due : K.lookup f_law_due = some ⟨oc_law_due, od_law_due, .func (PySem.W.fnOf "_law_due" "_law_due" (defArgs s_law_due) (defBody s_law_due) (defScope s_law_due) .none kV_law_due dc_law_due pm_law_due an_law_due cd_law_due ct_law_due), sl_law_due⟩)
    (c_law_due : PySem.W.codeIn K cd_law_due "_law_due" = true)
    (k_law_due : PySem.W.keepIn K (.ref f_law_due) = true)
    (a_law_rows : PySem.W.nsIn K mainGlobals "_law_rows" = some (some (.ref f_law_rows)))
    (l_law_rows : K.lookup f_law_rows = some ⟨oc_law_rows, od_law_rows, .func (PySem.W.fnOf "_law_rows" "_law_rows" (defArgs s_law_rows) (defBody s_law_rows) (defScope s_law_rows) .none kV_law_rows dc_law_rows pm_law_rows an_law_rows cd_law_rows ct_law_rows), sl_law_rows⟩)
    (c_law_rows : PySem.W.codeIn K cd_law_rows "_law_rows" = true)
    (k_law_rows : PySem.W.keepIn K (.ref f_law_rows) = true)
    (a_law_kinds : PySem.W.nsIn K mainGlobals "_law_kinds" = some (some (.ref f_law_kinds)))
    (l_law_kinds : K.lookup f_law_kinds = some ⟨oc_law_kinds, od_law_kinds, .func (PySem.W.fnOf "_law_kinds" "_law_kinds" (defArgs s_law_kinds) (defBody s_law_kinds) (defScope s_law_kinds) .none kV_law_kinds dc_law_kinds pm_law_kinds an_law_kinds cd_law_kinds ct_law_kinds), sl_law_kinds⟩)
    (c_law_kinds : PySem.W.codeIn K cd_law_kinds "_law_kinds" = true)
    (k_law_kinds : PySem.W.keepIn K (.ref f_law_kinds) = true)
    (a_law_counts : PySem.W.nsIn K mainGlobals "_law_counts" = some (some (.ref f_law_counts)))
    (l_law_counts : K.lookup f_law_counts = some ⟨oc_law_counts, od_law_counts, .func (PySem.W.fnOf "_law_counts" "_law_counts" (defArgs s_law_counts) (defBody s_law_counts) (defScope s_law_counts) .none kV_law_counts dc_law_counts pm_law_counts an_law_counts cd_law_counts ct_law_counts), sl_law_counts⟩)
    (c_law_counts : PySem.W.codeIn K cd_law_counts "_law_counts" = true)
    (k_law_counts : PySem.W.keepIn K (.ref f_law_counts) = true)
    (a_law : PySem.W.nsIn K mainGlobals "law" = some (some (.ref f_law)))
    (l_law : K.lookup f_law = some ⟨oc_law, od_law, .func (PySem.W.fnOf "law" "law" (defArgs s_law) (defBody s_law) (defScope s_law) .none kV_law dc_law pm_law an_law cd_law ct_law), sl_law⟩)
    (c_law : PySem.W.codeIn K cd_law "law" = true)
    (k_law : PySem.W.keepIn K (.ref f_law) = true)
    : ∃ fd : FuncData, (∀ (s : Shared) (v : Value), BindsTo s fd ⟨[v], []⟩ [("_law_script", v)]) ∧ ∀ base : Heap, K.In base → base.Ns mainGlobals mg → FnOk l.prog w K mg base CX0 7 fa fd ["_law_script"] (spF K p_law g_law) := by
  have e := hfa.symm.trans (PySem.W.mg_of X G a_law)
  cases e
  have T : Blt mg := ⟨PySem.W.mg_none_of X G n_isinstance, PySem.W.mg_none_of X G n_int, PySem.W.mg_none_of X G n_bool, PySem.W.mg_none_of X G n_list, PySem.W.mg_none_of X G n_tuple, PySem.W.mg_none_of X G n_len, PySem.W.mg_none_of X G n_range, PySem.W.mg_none_of X G n_reversed, PySem.W.mg_none_of X G n_enumerate, PySem.W.mg_none_of X G n_zip, PySem.W.mg_none_of X G n_sum, PySem.W.mg_none_of X G n_min, PySem.W.mg_none_of X G n_max, PySem.W.mg_none_of X G n_all, PySem.W.mg_none_of X G n_any, PySem.W.mg_none_of X G n_set, PySem.W.mg_none_of X G n_sorted⟩
  refine ⟨PySem.W.fnOf "law" "law" (defArgs s_law) (defBody s_law) (defScope s_law) .none kV_law dc_law pm_law an_law cd_law ct_law, fun s v => .of_eq rfl, fun base _ _ => ?_⟩
  have XE : Exs K mg CBadRow CBadKinds CBadMany CLeftError := ⟨⟨x_BadRow, PySem.W.mg_of X G a_BadRow, kp_BadRow, b_BadRow, t_BadRow⟩, ⟨x_BadKinds, PySem.W.mg_of X G a_BadKinds, kp_BadKinds, b_BadKinds, t_BadKinds⟩, ⟨x_BadMany, PySem.W.mg_of X G a_BadMany, kp_BadMany, b_BadMany, t_BadMany⟩, PySem.W.mg_of X G a_LeftError, PySem.W.mg_none_of X G n_ValueError, ⟨ga_BadRow, gt_BadRow, b_BadRow, hd_BadRow, cc_BadRow, g_get, g_tk, mo_BadRow⟩, ⟨ga_BadKinds, gt_BadKinds, b_BadKinds, hd_BadKinds, cc_BadKinds, g_get, g_tk, mo_BadKinds⟩, ⟨ga_BadMany, gt_BadMany, b_BadMany, hd_BadMany, cc_BadMany, g_get, g_tk, mo_BadMany⟩, PySem.W.exm_ref b_LeftError hd_LeftError t_LeftError s_BadRow, PySem.W.exm_ref b_LeftError hd_LeftError t_LeftError s_BadKinds, PySem.W.exm_ref b_LeftError hd_LeftError t_LeftError s_BadMany, i_BadRow_BadRow, i_BadRow_BadKinds, i_BadRow_BadMany, i_BadKinds_BadRow, i_BadKinds_BadKinds, i_BadKinds_BadMany, i_BadMany_BadRow, i_BadMany_BadKinds, i_BadMany_BadMany, v_BadRow, v_BadKinds, v_BadMany⟩
  have F_is_number := fun_mk (st := s_is_number) l_is_number c_is_number k_is_number
  have C_is_number : Callee l.prog w K mg base 1 "is_number" p_is_number g_is_number := ⟨⟨_, _, _, ok_is_number F_is_number T , PySem.W.mg_of X G a_is_number, k_is_number, F_is_number.binds (ps := ["thing"]) fun _ _ _ _ _ _ us hl => match us, hl with | [_], _ => rfl⟩⟩
  have F_check_row := fun_mk (st := s_check_row) l_check_row c_check_row k_check_row
  have C_check_row : CalleeE l.prog w K mg base 2 "check_row" p_check_row (r_check_row CBadRow) := ⟨⟨_, _, _, ok_check_row F_check_row T XE.r C_is_number, PySem.W.mg_of X G a_check_row, k_check_row, F_check_row.binds (ps := ["row"]) fun _ _ _ _ _ _ us hl => match us, hl with | [_], _ => rfl⟩⟩
  have F_check_kinds := fun_mk (st := s_check_kinds) l_check_kinds c_check_kinds k_check_kinds
  have C_check_kinds : CalleeE l.prog w K mg base 2 "check_kinds" p_check_kinds (r_check_kinds CBadKinds) := ⟨⟨_, _, _, ok_check_kinds F_check_kinds T XE.k C_is_number, PySem.W.mg_of X G a_check_kinds, k_check_kinds, F_check_kinds.binds (ps := ["kinds"]) fun _ _ _ _ _ _ us hl => match us, hl with | [_], _ => rfl⟩⟩
  have F_left := fun_mk (st := s_left) l_left c_left k_left
  have C_left : CalleeE l.prog w K mg base 3 "left" p_two (r_br CBadRow) := ⟨⟨_, _, _, ok_left F_left T C_check_row, PySem.W.mg_of X G a_left, k_left, F_left.binds (ps := ["row", "other"]) fun _ _ _ _ _ _ us hl => match us, hl with | [_, _], _ => rfl⟩⟩
  have F_longest := fun_mk (st := s_longest) l_longest c_longest k_longest
  have C_longest : CalleeE l.prog w K mg base 3 "longest" p_two (r_br CBadRow) := ⟨⟨_, _, _, ok_longest F_longest T C_check_row, PySem.W.mg_of X G a_longest, k_longest, F_longest.binds (ps := ["one", "other"]) fun _ _ _ _ _ _ us hl => match us, hl with | [_, _], _ => rfl⟩⟩
  have F_shortest := fun_mk (st := s_shortest) l_shortest c_shortest k_shortest
  have C_shortest : CalleeE l.prog w K mg base 3 "shortest" p_two (r_br CBadRow) := ⟨⟨_, _, _, ok_shortest F_shortest T C_check_row, PySem.W.mg_of X G a_shortest, k_shortest, F_shortest.binds (ps := ["one", "other"]) fun _ _ _ _ _ _ us hl => match us, hl with | [_, _], _ => rfl⟩⟩
  have F_ways := fun_mk (st := s_ways) l_ways c_ways k_ways
  have C_ways : CalleeE l.prog w K mg base 3 "ways" p_two (r_br CBadRow) := ⟨⟨_, _, _, ok_ways F_ways T C_check_row, PySem.W.mg_of X G a_ways, k_ways, F_ways.binds (ps := ["row", "other"]) fun _ _ _ _ _ _ us hl => match us, hl with | [_, _], _ => rfl⟩⟩
  have F_kin := fun_mk (st := s_kin) l_kin c_kin k_kin
  have C_kin : CalleeE l.prog w K mg base 3 "kin" p_kin (r_br CBadRow) := ⟨⟨_, _, _, ok_kin F_kin T C_check_row, PySem.W.mg_of X G a_kin, k_kin, F_kin.binds (ps := ["row"]) fun _ _ _ _ _ _ us hl => match us, hl with | [_], _ => rfl⟩⟩
  have F_missing := fun_mk (st := s_missing) l_missing c_missing k_missing
  have C_missing : CalleeE l.prog w K mg base 3 "missing" p_missing (r_missing CBadRow CBadKinds) := ⟨⟨_, _, _, ok_missing F_missing T C_check_row C_check_kinds, PySem.W.mg_of X G a_missing, k_missing, F_missing.binds (ps := ["row", "kinds"]) fun _ _ _ _ _ _ us hl => match us, hl with | [_, _], _ => rfl⟩⟩
  have F_least := fun_mk (st := s_least) l_least c_least k_least
  have C_least : CalleeE l.prog w K mg base 3 "least" p_least (r_least CBadRow CBadMany) := ⟨⟨_, _, _, ok_least F_least T XE.m C_check_row C_is_number, PySem.W.mg_of X G a_least, k_least, F_least.binds (ps := ["row", "many"]) fun _ _ _ _ _ _ us hl => match us, hl with | [_, _], _ => rfl⟩⟩
  have F_mixed := fun_mk (st := s_mixed) l_mixed c_mixed k_mixed
  have C_mixed : CalleeE l.prog w K mg base 3 "mixed" p_mixed (r_mixed CBadRow CBadMany) := ⟨⟨_, _, _, ok_mixed F_mixed T XE.m C_check_row, PySem.W.mg_of X G a_mixed, k_mixed, F_mixed.binds (ps := ["row", "one", "other"]) fun _ _ _ _ _ _ us hl => match us, hl with | [_, _, _], _ => rfl⟩⟩
  have F_law_mix := fun_mk (st := s_law_mix) l_law_mix c_law_mix k_law_mix
  have C_law_mix : CalleeE l.prog w K mg base 4 "_law_mix" p_law_mix (r_law_mix CBadRow CBadMany) := ⟨⟨_, _, _, ok_law_mix F_law_mix T C_mixed, PySem.W.mg_of X G a_law_mix, k_law_mix, F_law_mix.binds (ps := ["_law_door", "_law_thing"]) fun _ _ _ _ _ _ us hl => match us, hl with | [_, _], _ => rfl⟩⟩
  have F_law_ask := fun_mk (st := s_law_ask) l_law_ask c_law_ask k_law_ask
  have C_law_ask : CalleeE l.prog w K mg base 5 "_law_ask" p_law_ask (r_law_ask CBadRow CBadKinds CBadMany) := ⟨⟨_, _, _, ok_law_ask F_law_ask T C_left C_longest C_shortest C_ways C_kin C_missing C_least C_mixed C_law_mix, PySem.W.mg_of X G a_law_ask, k_law_ask, F_law_ask.binds (ps := ["_law_door", "_law_thing"]) fun _ _ _ _ _ _ us hl => match us, hl with | [_, _], _ => rfl⟩⟩
  have F_law_due := fun_mk (st := s_law_due) l_law_due c_law_due k_law_due
  have C_law_due : Callee l.prog w K mg base 6 "_law_due" p_law_due g_law_due := ⟨⟨_, _, _, ok_law_due F_law_due T XE C_law_ask, PySem.W.mg_of X G a_law_due, k_law_due, F_law_due.binds (ps := ["_law_door", "_law_thing", "_law_due_here"]) fun _ _ _ _ _ _ us hl => match us, hl with | [_, _, _], _ => rfl⟩⟩
  have F_law_rows := fun_mk (st := s_law_rows) l_law_rows c_law_rows k_law_rows
  have C_law_rows : Callee l.prog w K mg base 1 "_law_rows" p_things (g_things rowsL) := ⟨⟨_, _, _, ok_law_rows F_law_rows T , PySem.W.mg_of X G a_law_rows, k_law_rows, F_law_rows.binds (ps := ["_law_cell"]) fun _ _ _ _ _ _ us hl => match us, hl with | [_], _ => rfl⟩⟩
  have F_law_kinds := fun_mk (st := s_law_kinds) l_law_kinds c_law_kinds k_law_kinds
  have C_law_kinds : Callee l.prog w K mg base 1 "_law_kinds" p_things (g_things kindsL) := ⟨⟨_, _, _, ok_law_kinds F_law_kinds T , PySem.W.mg_of X G a_law_kinds, k_law_kinds, F_law_kinds.binds (ps := ["_law_cell"]) fun _ _ _ _ _ _ us hl => match us, hl with | [_], _ => rfl⟩⟩
  have F_law_counts := fun_mk (st := s_law_counts) l_law_counts c_law_counts k_law_counts
  have C_law_counts : Callee l.prog w K mg base 1 "_law_counts" p_things (g_things countsL) := ⟨⟨_, _, _, ok_law_counts F_law_counts T , PySem.W.mg_of X G a_law_counts, k_law_counts, F_law_counts.binds (ps := ["_law_cell"]) fun _ _ _ _ _ _ us hl => match us, hl with | [_], _ => rfl⟩⟩
  have F_law := fun_mk (st := s_law) l_law c_law k_law
  exact ok_law F_law T C_law_rows C_law_kinds C_law_counts C_law_due
theorem spLaw_ok (K : PySem.W.Frag) (H : Hp) (a : Addr) (ns : List Int) (hl : ns.length ≤ 63) (h : SqL K H a (ns.map V.int)) : spF K p_law g_law [.ref a] H (fun v _ => v = .bl true) fun _ _ _ => False :=
  ⟨[.scr ns], .cons (.scr h) .nil, ⟨ns, rfl, hl⟩, fun v H' Hn _ _ _ rv => by cases rv; rfl⟩
theorem walk {l : PySem.W.OpenLaw} {q : Program} {loose : List Str} {XP : (Str → Option Value) → Heap → Prop} {YP : World → Heap → Prop} {d : DefRec} {K : Params → PySem.W.Frag} (hn : l.most = some 63) (hdf : d.params.defaults = [])
    (hY : ∀ (w : World) (h : Heap), YP w h → (K w.params).In h)
    (F : ∀ (w : World) (mg : Str → Option Value) (fa : Addr) (h : Heap), (K w.params).In h → h.Ns mainGlobals mg → mg d.name = some (.ref fa) →
      ∃ fd : FuncData, (∀ (s : Shared) (u : Value), BindsTo s fd ⟨[u], []⟩ [("_law_script", u)]) ∧ ∀ base : Heap, (K w.params).In base → base.Ns mainGlobals mg → FnOk l.prog w (K w.params) mg base CX0 7 fa fd ["_law_script"] (spF (K w.params) p_law g_law)) :
    PySem.W.WalkO q loose XP YP l.row.toRowW d [] (fun f vs => PySem.call f vs) :=
  L2.walk_of (n := 63) (k := 7) (x := "_law_script") (CX := fun _ => CX0) (sp := fun w => spF (K w.params) p_law g_law) hn (by decide) hdf ⟨rfl, by decide, by decide⟩ hY F (fun w H a ns hl _ hS => spLaw_ok _ H a ns hl hS) fun _ _ _ _ _ z => z
end Kc
open PySem PySem.W PyProof.Rows
set_option maxRecDepth 100000 in
set_option maxHeartbeats 0 in
theorem PySem.Challenge.cw_leftin_k08_refused_holds : PySem.Challenge.rw_leftin_k08_refused.Holds := by
  w_on; o_law; k_head; (case hw => w_witness2)
  k_fill
  refine Kc.walk (l := PySem.Challenge.rw_leftin_k08_refused) rfl rfl (fun w h Y => PySem.W.kIn_of Y) ?F
  case F =>
    intro w mg fa h KX G hmg
    refine' Kc.all_mk KX G hmg ?n_isinstance ?n_int ?n_bool ?n_list ?n_tuple ?n_len ?n_range ?n_reversed ?n_enumerate ?n_zip ?n_sum ?n_min ?n_max ?n_all ?n_any ?n_set ?n_sorted ?g_get ?g_tk ?n_ValueError ?a_LeftError ?a_BadRow ?a_BadKinds ?a_BadMany ?b_LeftError ?t_LeftError ?hd_LeftError ?b_BadRow ?t_BadRow ?hd_BadRow ?x_BadRow ?kp_BadRow ?s_BadRow ?ga_BadRow ?gt_BadRow ?cc_BadRow ?mo_BadRow ?i_BadRow_BadRow ?i_BadRow_BadKinds ?i_BadRow_BadMany ?v_BadRow ?b_BadKinds ?t_BadKinds ?hd_BadKinds ?x_BadKinds ?kp_BadKinds ?s_BadKinds ?ga_BadKinds ?gt_BadKinds ?cc_BadKinds ?mo_BadKinds ?i_BadKinds_BadRow ?i_BadKinds_BadKinds ?i_BadKinds_BadMany ?v_BadKinds ?b_BadMany ?t_BadMany ?hd_BadMany ?x_BadMany ?kp_BadMany ?s_BadMany ?ga_BadMany ?gt_BadMany ?cc_BadMany ?mo_BadMany ?i_BadMany_BadRow ?i_BadMany_BadKinds ?i_BadMany_BadMany ?v_BadMany ?a_is_number ?l_is_number ?c_is_number ?k_is_number ?a_check_row ?l_check_row ?c_check_row ?k_check_row ?a_check_kinds ?l_check_kinds ?c_check_kinds ?k_check_kinds ?a_left ?l_left ?c_left ?k_left ?a_longest ?l_longest ?c_longest ?k_longest ?a_shortest ?l_shortest ?c_shortest ?k_shortest ?a_ways ?l_ways ?c_ways ?k_ways ?a_kin ?l_kin ?c_kin ?k_kin ?a_missing ?l_missing ?c_missing ?k_missing ?a_least ?l_least ?c_least ?k_least ?a_mixed ?l_mixed ?c_mixed ?k_mixed ?a_law_mix ?l_law_mix ?c_law_mix ?k_law_mix ?a_law_ask ?l_law_ask ?c_law_ask ?k_law_ask ?a_law_due ?l_law_due ?c_law_due ?k_law_due ?a_law_rows ?l_law_rows ?c_law_rows ?k_law_rows ?a_law_kinds ?l_law_kinds ?c_law_kinds ?k_law_kinds ?a_law_counts ?l_law_counts ?c_law_counts ?k_law_counts ?a_law ?l_law ?c_law ?k_law
    (case n_isinstance => k_is)
    (case n_int => k_is)
    (case n_bool => k_is)
    (case n_list => k_is)
    (case n_tuple => k_is)
    (case n_len => k_is)
    (case n_range => k_is)
    (case n_reversed => k_is)
    (case n_enumerate => k_is)
    (case n_zip => k_is)
    (case n_sum => k_is)
    (case n_min => k_is)
    (case n_max => k_is)
    (case n_all => k_is)
    (case n_any => k_is)
    (case n_set => k_is)
    (case n_sorted => k_is)
    (case g_get => k_is)
    (case g_tk => k_is)
    (case n_ValueError => k_is)
    (case a_LeftError => k_is)
    (case a_BadRow => k_is)
    (case a_BadKinds => k_is)
    (case a_BadMany => k_is)
    (case b_LeftError => k_is)
    (case t_LeftError => k_is)
    (case hd_LeftError => k_is)
    (case b_BadRow => k_is)
    (case t_BadRow => k_is)
    (case hd_BadRow => k_is)
    (case x_BadRow => k_exc)
    (case kp_BadRow => k_is)
    (case s_BadRow => k_is)
    (case ga_BadRow => k_is)
    (case gt_BadRow => k_is)
    (case cc_BadRow => k_is)
    (case mo_BadRow => k_is)
    (case i_BadRow_BadRow => kit_is)
    (case i_BadRow_BadKinds => kit_is)
    (case i_BadRow_BadMany => kit_is)
    (case v_BadRow => kit_is)
    (case b_BadKinds => k_is)
    (case t_BadKinds => k_is)
    (case hd_BadKinds => k_is)
    (case x_BadKinds => k_exc)
    (case kp_BadKinds => k_is)
    (case s_BadKinds => k_is)
    (case ga_BadKinds => k_is)
    (case gt_BadKinds => k_is)
    (case cc_BadKinds => k_is)
    (case mo_BadKinds => k_is)
    (case i_BadKinds_BadRow => kit_is)
    (case i_BadKinds_BadKinds => kit_is)
    (case i_BadKinds_BadMany => kit_is)
    (case v_BadKinds => kit_is)
    (case b_BadMany => k_is)
    (case t_BadMany => k_is)
    (case hd_BadMany => k_is)
    (case x_BadMany => k_exc)
    (case kp_BadMany => k_is)
    (case s_BadMany => k_is)
    (case ga_BadMany => k_is)
    (case gt_BadMany => k_is)
    (case cc_BadMany => k_is)
    (case mo_BadMany => k_is)
    (case i_BadMany_BadRow => kit_is)
    (case i_BadMany_BadKinds => kit_is)
    (case i_BadMany_BadMany => kit_is)
    (case v_BadMany => kit_is)
    (case a_is_number => k_is)
    (case l_is_number => k_is)
    (case c_is_number => k_is)
    (case k_is_number => k_is)
    (case a_check_row => k_is)
    (case l_check_row => k_is)
    (case c_check_row => k_is)
    (case k_check_row => k_is)
    (case a_check_kinds => k_is)
    (case l_check_kinds => k_is)
    (case c_check_kinds => k_is)
    (case k_check_kinds => k_is)
    (case a_left => k_is)
    (case l_left => k_is)
    (case c_left => k_is)
    (case k_left => k_is)
    (case a_longest => k_is)
    (case l_longest => k_is)
    (case c_longest => k_is)
    (case k_longest => k_is)
    (case a_shortest => k_is)
    (case l_shortest => k_is)
    (case c_shortest => k_is)
    (case k_shortest => k_is)
    (case a_ways => k_is)
    (case l_ways => k_is)
    (case c_ways => k_is)
    (case k_ways => k_is)
    (case a_kin => k_is)
    (case l_kin => k_is)
    (case c_kin => k_is)
    (case k_kin => k_is)
    (case a_missing => k_is)
    (case l_missing => k_is)
    (case c_missing => k_is)
    (case k_missing => k_is)
    (case a_least => k_is)
    (case l_least => k_is)
    (case c_least => k_is)
    (case k_least => k_is)
    (case a_mixed => k_is)
    (case l_mixed => k_is)
    (case c_mixed => k_is)
    (case k_mixed => k_is)
    (case a_law_mix => k_is)
    (case l_law_mix => k_is)
    (case c_law_mix => k_is)
    (case k_law_mix => k_is)
    (case a_law_ask => k_is)
    (case l_law_ask => k_is)
    (case c_law_ask => k_is)
    (case k_law_ask => k_is)
    (case a_law_due => k_is)
    (case l_law_due => k_is)
    (case c_law_due => k_is)
    (case k_law_due => k_is)
    (case a_law_rows => k_is)
    (case l_law_rows => k_is)
    (case c_law_rows => k_is)
    (case k_law_rows => k_is)
    (case a_law_kinds => k_is)
    (case l_law_kinds => k_is)
    (case c_law_kinds => k_is)
    (case k_law_kinds => k_is)
    (case a_law_counts => k_is)
    (case l_law_counts => k_is)
    (case c_law_counts => k_is)
    (case k_law_counts => k_is)
    (case a_law => k_is)
    (case l_law => k_is)
    (case c_law => k_is)
    (case k_law => k_is)
#print axioms PySem.Challenge.cw_leftin_k08_refused_holds
